import PyProof.Rows.All
import Wide.All
import OpenK.AllK
import Wide.FinOn
import Lean
import PySem.Challenge.RW_on0213_01
set_option Elab.async false
set_option linter.all false
set_option maxRecDepth 100000
set_option maxHeartbeats 8000000
set_option compiler.extract_closed false
set_option compiler.reuse false
set_option genSizeOf false
set_option genInjectivity false
set_option tactic.hygienic false
open PySem PySem.W PyProof.Rows PySem.Calls
namespace Mine.Internal
section
local macro_rules | `(tactic| o_head $_) => `(tactic| skip)
theorem hp (h:∀p:Prop,p):PySem.Challenge.rw_on0213_01.row.Holds:=by
 k_head;exact h _
end
inductive Op where
 | subi|str|movi|ldr|addi|mov
 deriving DecidableEq,Nonempty
set_option genInjectivity true
inductive aN where
 | reg (op:Op) (a b k:Int)
 | bl (t k:Int)
 | br (r k:Int)
 deriving Nonempty
set_option genInjectivity false
inductive ui where
 | own|held|away
 deriving DecidableEq,Nonempty
structure bg where
 k:ui
 m:Nat
 w:Nat
 deriving Nonempty
open Lean in
def KA:List String:="Lean.Parser.Tactic.first null group Lean.Parser.Tactic.tacticSeq Lean.Parser.Tactic.tacticSeq1Indented Lean.Parser.Tactic.paren Lean.Parser.Tactic.refine Lean.Parser.Term.noImplicitLambda Lean.Parser.Term.paren Lean.Parser.Term.hygienicLParen hygieneInfo Lean.Parser.Term.fun Lean.Parser.Term.basicFun Lean.Parser.Term.typeAscription Lean.Parser.Term.hole Lean.Parser.Term.prop Lean.Parser.Term.syntheticHole Lean.Parser.Term.app Lean.Parser.Tactic.generalize Lean.Parser.Tactic.generalizeArg Lean.Parser.Tactic.intro Lean.Parser.Tactic.cases Lean.Parser.Tactic.elimTarget Lean.Parser.Tactic.withReducible Lean.Parser.Tactic.assumption Lean.Parser.Tactic.decide Lean.Parser.Tactic.optConfig Lean.Parser.Tactic.show Lean.Parser.Term.explicit Lean.Parser.Tactic.exact Lean.Parser.Term.byTactic Lean.Parser.Tactic.simp Lean.Parser.Tactic.configItem Lean.Parser.Tactic.posConfigItem Lean.Parser.Tactic.done Lean.Parser.Tactic.lia Lean.Parser.Tactic.omega Lean.Parser.Tactic.valConfigItem Lean.Parser.Tactic.apply Lean.Parser.Tactic.fail str Lean.Parser.Term.dotIdent Lean.Parser.Tactic.tacticRfl «term_::_» «term[_]» «term∃_,_» Lean.explicitBinders Lean.unbracketedExplicitBinders Lean.binderIdent «term_∧_» Lean.Parser.Term.anonymousCtor Lean.Parser.Tactic.tacticRepeat_ Lean.Parser.Tactic.dsimp Lean.Parser.Tactic.simpLemma Lean.Parser.Tactic.rwSeq Lean.Parser.Tactic.rwRuleSeq Lean.Parser.Tactic.rwRule Lean.Parser.Tactic.tacticTry_ Lean.Parser.Tactic.repeat' Lean.Parser.Tactic.clear Lean.Parser.Tactic.subst Lean.Parser.Tactic.revert tacticKernel_rfl".splitOn " "
def nd (k:String) (as:List Lean.Syntax):Lean.Syntax:=.node .none k.toName as.toArray
def LC (as:List Lean.Syntax) (st:List Lean.Syntax) (t:String):List Lean.Syntax:=
 let r:=(t.drop 1).toString
 match t.front with
 | '\''=>.atom .none r::st
 | '$'=>.ident .none r.toRawSubstring r.toName []::st
 | '@'=>as.getD r.toNat! .missing::st
 | '%'=>match st with|x::st=>nd "Lean.Parser.Tactic.tacticSeq" [nd "Lean.Parser.Tactic.tacticSeq1Indented" [nd "null" [x]]]::st|[]=>[]
 | '_'=>nd "Lean.Parser.Term.hole" [.atom .none "_"]::st
 | '?'=>nd "Lean.Parser.Term.syntheticHole" [.atom .none "?",.atom .none "_"]::st
 | '('=>nd "Lean.Parser.Term.hygienicLParen" [.atom .none "(",nd "hygieneInfo" [.ident .none "".toRawSubstring .anonymous []]]::st
 | c=>let n:=c.toNat-97;.node .none (KA.getD r.toNat! "").toName (st.take n).reverse.toArray::st.drop n
def LJ (s:String) (as:List Lean.Syntax):Lean.Syntax:=((s.splitOn " ").foldl (LC as) []).headD .missing
def yR:String:="\na=~L 'apply $Mine.Internal.gx.here ~p $Mine.Internal.gx.at1 ~p $Mine.Internal.gx.at2 ~p $Mine.Internal.gx.at3 ~p $Mine.Internal.gx.at4 ~p $Mine.Internal.gx.at5 ~p $Mine.Internal.gx.at6 ~p $Mine.Internal.gx.at7 ~r $Mine.Internal.gx.th c38 ~F '\"a\" ~v j1 c0\ne=~L 'apply $Mine.Internal.At.here ~r $Mine.Internal.At.there c38 ~F '\"e\" ~v ~4\nb=~L 'apply $Mine.Internal.fK.here ~r $Mine.Internal.fK.there c38 ~F '\"b\" ~v ~4\nl=~L 'apply $Mine.Internal.oT.here ~r $Mine.Internal.oT.there c38 ~F '\"l\" ~v ~4\nm=~L 'apply $Mine.Internal.bP.un ~p $Mine.Internal.bP.val ~p $Mine.Internal.bP.un1 ~p $SetE.val1 ~p $Mine.Internal.bP.un2 ~p $Mine.Internal.bP.val2 ~p $Mine.Internal.bP.un3 ~p $SetE.val3 ~p $Mine.Internal.bP.un4 ~p $Mine.Internal.bP.val4 ~p $Mine.Internal.bP.un5 ~p $SetE.val5 ~p $Mine.Internal.bP.un6 ~p $Mine.Internal.bP.val6 ~p $Mine.Internal.bP.un7 ~p $SetE.val7 ~r $Mine.Internal.bP.th c38 ~F '\"m\" ~v r1 c0\nc=~L 'apply $Mine.Internal.aM.lst ~p $Mine.Internal.aM.dS ~p $Mine.Internal.aM.dI c38 % c23 ~l 'exact $Mine.Internal.aM.loc ~m '\"e\" & b1 c17 c29 ~1 e1 c0\nh='first ~b ~M $Name c41 ~Z c1 Z _ e1 Q ~L 'refine $Mine.Internal.zG ~5 b1 ~n * 'refine $Mine.Internal.zH ~5 ~m '\"e\" & c1 ~n % c23 ~1 ~4 ~f ~i 'exact $Mine.Internal.Cw c29 * 'exact $Mine.Internal.Cu c29 * 'exact $Mine.Internal.zI c29 * 'exact $ev_none c29 % c23 ~1 ~b ~M $BinOp c41 _ '. $Add c41 ~Z e1 Z _ e1 Q ~Q $Mine.Internal.qT ~G ~G c1 ~n % c23 < ~M $BinOp c41 _ '. $Sub c41 ~Z e1 Z _ e1 Q ~Q $Mine.Internal.Ct ~G ~G c1 ~n % c23 < ~M $UnaryOp c41 '. $USub c41 ~Z d1 Z _ e1 Q ~Q $Mine.Internal.Cv ~G b1 ~n % c23 < ~M $Subscript c41 _ ( '. $Constant c41 ( '. $int c41 _ b1 Z ~Z d1 Z _ d1 Z _ e1 Q 'refine $Mine.Internal.zF ~G ( 'by 'rfl b42 ~6 ~K ~K e1 ~n ~f j1 c0\nz=~L 'exact $Mine.Internal.zE c29 % c23 ~1 ~b $Mine.Internal.KU ~Z ( _ ':: _ d43 ') d8 _ e1 Q 'refine $Mine.Internal.yb ~G ~m '\"z\" & c1 ~n ~f ~4\nB='first ~b $Mine.Internal.dl _ ( '. $Assign c41 '[ '. $Name c41 ~Z c1 c17 b1 '] d44 ~Z d1 c17 ':: _ d43 ') d8 ~y $Mine.Internal.yy ~G ~m '\"m\" & ? d1 ~n < ~S _ ~y $Mine.Internal.dJ ~G ~O < $Mine.Internal.rq _ ( _ ':: _ d43 ') d8 ~y $Mine.Internal.wO ~m '\"z\" & ~O < ~k '. $Eq c41 ~g $Mine.Internal.BU ! $Mine.Internal.BT ! ~d e1 c0 < ~k '. $NotEq c41 ~g $tb_nei ! $Mine.Internal.BS ! ~d e1 c0 < ~k '. $Lt c41 ~g $Mine.Internal.CT ! ~d d1 c0 < ~k '. $LtE c41 ~g $Mine.Internal.CU ! ~d d1 c0 < ~k '. $Gt c41 ~g $tb_gt ! ~d d1 c0 < ~k '. $GtE c41 ~g $Mine.Internal.CV ! ~d d1 c0 < ~k _ ~g ~d ~4 ~f k1 c0\nC='first ~b ~S ( '. $Compare c41 _ '[ _ ~g $Mine.Internal.yH ! $te_cmp1 ~G ~O ~1 ~4 < ~S ( '. $BinOp c41 ~Z ~Z e1 Z ~Z _ f1 Q ~C 'refine $Mine.Internal.yJ ! $Mine.Internal.yK ~G ~O ~1 ~4 < ~S ( '. $Subscript c41 ~Z _ d1 Z ~Z _ f1 Q ~C 'refine $Mine.Internal.yF ! $Mine.Internal.yG ~G ~O ~1 ~4 < ~9 $Return c41 ( $Option.some _ b1 Z _ c1 Z ~y $Mine.Internal.yz ~G ~O ~W $Mine.Internal.bq ~z ~b $Mine.Internal.gy ~Z _ $Mine.Internal.Fl.next ~Z g1 Q 'show $Mine.Internal.dl ~Z _ ~Z f1 c17 c27 ~W $Mine.Internal.ul ~c $Mine.Internal.tq ~c $Mine.Internal.uo ~z ~b ~9 $Assign c41 '[ _ b1 '] d44 ~Z d1 Z ~y $Mine.Internal.eN ~U ~f k1 c0\nD='first ~b ~9 $Expr c41 ~Z c1 Z ~y $Mine.Internal.yA ~U ~W $Mine.Internal.dr ~m '\"m\" & ~O % c23 ~1 ~b $Mine.Internal.TA _ ( '. $Tuple c41 ~Z _ d1 Z ( '. $tup c41 _ b1 Z ~Z _ g1 Q 'refine $Mine.Internal.mM ~U ~W $Mine.Internal.fO ~c $Mine.Internal.qr ~c $Mine.Internal.ut ~5 ~O * 'refine $Mine.Internal.bw ~5 ~m '\"e\" & ? d1 ~n * 'refine $Mine.Internal.tu ~c $Mine.Internal.wR ~c $Mine.Internal.uu ~z k1 c0\nE=~L 'refine $te_none ~c $Mine.Internal.qq ~c $Mine.Internal.mK ~c $Mine.Internal.A0 ~z ~b ~k _ b1 '] d44 '[ _ b1 '] d44 _ e1 Z ~y $Mine.Internal.lm ~U < ~S ( '. $Compare c41 _ '[ _ b1 '] d44 '[ _ b1 '] d44 _ e1 Z ~y $Mine.Internal.wT ~U < ~k _ ', _ d1 '] d44 '[ _ ', _ d1 '] d44 _ e1 Z ~y $Mine.Internal.vF ~U ~W $Mine.Internal.yN ~c $tb_not ~c $Mine.Internal.yL ~z k1 c0\nF=~L 'refine $Mine.Internal.BP ~c $Mine.Internal.eh ~c $Mine.Internal.mL ~z ~b $Mine.Internal.rq _ ( _ ':: _ d43 ') d8 ~y $Mine.Internal.cL ~U ~W $Mine.Internal.ur ~c $Mine.Internal.wP ~c $Mine.Internal.wS ~c $Mine.Internal.x9 ~c $Mine.Internal.x0 ~c $Mine.Internal.x8 ~z k1 c0\nG=~L 'refine $Mine.Internal.BV ~c $Mine.Internal.Ac ~c $Mine.Internal.Ae ~c $Mine.Internal.CW ~c $Mine.Internal.Af ~c $Mine.Internal.x7 ~c $Mine.Internal.qu ~c $Mine.Internal.xe ~c $Mine.Internal.KB ~c $Mine.Internal.KC ~z k1 c0\nH=~L 'refine $Mine.Internal.Co ~c $Mine.Internal.Cn ~z ~b $Mine.Internal.T2 _ ( $PyProof.Rows.subscriptTail ~Z c1 Z ( '. $tup c41 ~w '. $int c41 _ b1 Z ~Z g1 Q 'refine $Mine.Internal.uv $rfl ~K ~K ? e1 ~n < '∃ _ b48 b1 a1 c47 b46 ', _ '∧ _ d49 e45 c27 % c23 ~X '; 'refine '⟨ _ ', $rfl ', ? f1 '⟩ d50 c6 ~f e1 c0\nI=~C 'fail '\"B\" ~7 '\"C\" ~7 '\"D\" ~7 '\"E\" ~7 '\"F\" ~7 '\"G\" ~7 '\"H\" ~q ~1 h1 c0\nw='repeat 'fail '\"I\" ~q % c51\nj='dsimp a1 b26 a1 'only b1 '[ a1 a1 $Mine.Internal.lG ~V $Mine.Internal.k4 ~V $List.nil_append ~V $List.cons_append d53 h1 '] d1 a1 g52\nf='repeat ~L 'refine $Mine.Internal.aw ~z ~b $Mine.Internal.gy ~Z _ $Mine.Internal.Fl.next ~Z g1 Q 'show $Mine.Internal.dl ~Z _ ~Z f1 c17 c27 ~f ~4 % c51\nn=~C 'exact $Mine.Internal.oS.nil c29 ~l ~P $Mine.Internal.oS.loc ~U ~F '\"n\" ~q ~f '| ~P $Mine.Internal.oS.glb ~U ~F '\"n\" ~q ~f '| ~P $Mine.Internal.oS.cel ~5 ~O ~F '\"n\" ~q ~f e1 c0\nd=~C 'exact $Mine.Internal.dP.nil c29 ~l '( ~Q $Mine.Internal.dP.same ~U ~F '\"d\" ~q d1 b4 b3 c23 ~X ~l '( ~Q $Mine.Internal.dP.un ~U ~F '\"d\" ~v d1 c0\ns=~L 'apply $Mine.Internal.jU.un ~p $Mine.Internal.jU.val ~r $Mine.Internal.jU.there c38 ~F '\"s\" ~v d1 c0\nr=~C 'exact $List.Sublist.refl _ b1 c17 c29 ~l ~P $List.Sublist.cons _ ~O ~F '\"r\" ~q ~f ~4\ng=~C 'decide a1 b26 c25 ~l '( 'rw a1 b26 '[ a1 $PySem.sizeLine_eq c56 b1 '] d55 a1 e54 '; 'simp a1 b26 a1 a1 a1 a1 g31 ~f ~4\nx=~P $Mine.Internal.aa ~5 ( $Mine.Internal.kq.g_len ( 'by 'assumption b24 ~6 b1 Z ? d1 ~n ~0 '; 'refine $Mine.Internal.bt ~m '\"c\" & ( 'by ~C ~8 ~l '( 'simp a1 b26 a1 a1 a1 a1 g31 '; ~8 ~f ~4 ~6 ? d1 ~n ~0 h1 ~A\nitem=~P $Mine.Internal.al ~m '\"c\" & ? ( 'by ~8 ~6 ( 'by ~8 ~6 ? f1 ~n ~X\ngg='( 'simp a1 b26 a1 'only b1 '[ a1 a1 $Bool.false_eq_true ~V $if_false ~V $if_true ~V $Bool.not_true ~V $Bool.not_false d53 j1 '] d1 a1 g31 ~X\nt=~P $Mine.Internal.ap ~U ~0 '; 'refine $Mine.Internal.aH $PySem.slot_list_append ( 'by 'rfl b42 ~6 $rfl ~m '\"c\" & ? f1 ~n ~0 h1 ~A\ni='( ~j ~E '\"name\" X ( $Mine.Internal.JO.g_name ~w $Mine.Internal.qF ~H '\"key\" X ( $Mine.Internal.JO.g_key ~w $Mine.Internal.tD ~H '\"imports\" X ( $Mine.Internal.JO.g_imports ~w $Mine.Internal.i8 ~H '\"rows\" X ( $Mine.Internal.JO.g_rows ~w $Mine.Internal.gi ~H '\"data_size\" X ( $Mine.Internal.JO.g_data_size ~w $Mine.Internal.eF ~H '\"words\" X ( $Mine.Internal.JO.g_words ~w $Mine.Internal.iP ~H '\"data_fixups\" X ( $Mine.Internal.JO.g_data_fixups ~w $Mine.Internal.eG ~H '\"fixups\" X ( $Mine.Internal.JO.g_fixups ~w $Mine.Internal.ju ~H '\"entries\" X ( $Mine.Internal.JO.g_entries ~w $Mine.Internal.fT ~H '\"pointers\" X ( $Mine.Internal.JO.g_pointers ~w $Mine.Internal.gj ~H '\"maps\" X ( $Mine.Internal.JO.g_maps ~w $Mine.Internal.kE ~H '\"commands\" X ( $Mine.Internal.JO.g_commands ~w $Mine.Internal.gk ~H '\"body\" X ( $Mine.Internal.JO.g_body ~w $Mine.Internal.kF } b3 ') d5 ~1 n1 c0 f1 ~A\np=~P $Mine.Internal.bS ~U ~0 '; 'first ~b $Mine.Internal.T3 _ ( 'fun $x _ $z d1 a1 '=> $PySem.setAttr $x '\"name\" Y $Mine.Internal.t3a_name { / '\"key\" Y $Mine.Internal.t3a_key { / '\"imports\" Y $Mine.Internal.rF { / '\"rows\" Y $Mine.Internal.mN { / '\"data_size\" Y $Mine.Internal.oV { / '\"words\" Y $Mine.Internal.vI { / '\"data_fixups\" Y $Mine.Internal.mc { / '\"fixups\" Y $Mine.Internal.t3a_fixups { / '\"entries\" Y $Mine.Internal.t3a_entries { / '\"pointers\" Y $Mine.Internal.qt { / '\"maps\" Y $Mine.Internal.wV { / '\"commands\" Y $Mine.Internal.t3a_commands { / '\"body\" Y $Mine.Internal.wW { '\"b\" & ? e1 ~n ~f n1 c0 f1 ~A\nk='( ~j ~E '\"name\" ~s $Mine.Internal.t1a_name ~e '\"key\" ~s $Mine.Internal.t1a_key ~e '\"imports\" ~s $Mine.Internal.t1a_imports ~e '\"rows\" ~s $Mine.Internal.mO ~e '\"data_size\" ~s $Mine.Internal.t1a_data_size ~e '\"words\" ~s $Mine.Internal.vK ~e '\"data_fixups\" ~s $Mine.Internal.t1a_data_fixups ~e '\"fixups\" ~s $Mine.Internal.tx ~e '\"entries\" ~s $Mine.Internal.rG ~e '\"pointers\" ~s $Mine.Internal.t1a_pointers ~e '\"maps\" ~s $Mine.Internal.xd ~e '\"commands\" ~s $Mine.Internal.qx ~e '\"body\" ~s $Mine.Internal.t1a_body { '\"e\" & ? e1 ~n ~f n1 c0 f1 ~A\nq=~C '( 'apply $Mine.Internal.uh.val c38 '; 'exact $Mine.Internal.Rp.loc c29 '; 'exact $Mine.Internal.uh.refl c29 f1 ~A ~l '( 'apply $Mine.Internal.uh.same c38 ~F '\"q\" ~q ~f ~4\no='( ~j ~E '\"name\" X ( $Mine.Internal.RO.g_name ~w $Mine.Internal.qF ~H '\"key\" X ( $Mine.Internal.RO.g_key ~w $Mine.Internal.tD ~H '\"imports\" X ( $Mine.Internal.RO.g_imports ~w $Mine.Internal.i8 ~H '\"rows\" X ( $Mine.Internal.RO.g_rows ~w $Mine.Internal.gi ~H '\"data_size\" X ( $Mine.Internal.RO.g_data_size ~w $Mine.Internal.eF ~H '\"words\" X ( $Mine.Internal.RO.g_words ~w $Mine.Internal.iP ~H '\"data_fixups\" X ( $Mine.Internal.RO.g_data_fixups ~w $Mine.Internal.eG ~H '\"fixups\" X ( $Mine.Internal.RO.g_fixups ~w $Mine.Internal.ju ~H '\"entries\" X ( $Mine.Internal.RO.g_entries ~w $Mine.Internal.fT ~H '\"pointers\" X ( $Mine.Internal.RO.g_pointers ~w $Mine.Internal.gj ~H '\"maps\" X ( $Mine.Internal.RO.g_maps ~w $Mine.Internal.kE ~H '\"commands\" X ( $Mine.Internal.RO.g_commands ~w $Mine.Internal.gk ~H '\"body\" X ( $Mine.Internal.RO.g_body ~w $Mine.Internal.kF } b3 ') d5 ~1 n1 c0 f1 ~A\nA='( 'first ~b $Mine.Internal.T3 _ ( 'fun $x _ $z d1 a1 '=> $PySem.setAttr $x '\"objects\" Y $Mine.Internal.t3b_objects { / '\"code\" Y $Mine.Internal.t3b_code { / '\"data\" Y $Mine.Internal.t3b_data { / '\"rows\" Y $Mine.Internal.wU { / '\"bytes\" Y $Mine.Internal.vH { '\"b\" & ? e1 ~n ~f f1 c0 ~X\nu='( 'first ~b $Mine.Internal.T1 _ ( 'fun ~E '\"objects\" ~s $Mine.Internal.t1b_objects ~e '\"code\" ~s $Mine.Internal.xc ~e '\"data\" ~s $Mine.Internal.xb ~e '\"rows\" ~s $Mine.Internal.xa ~e '\"bytes\" ~s $Mine.Internal.vJ { '\"e\" & ? e1 ~n ~f f1 c0 ~X\nv='( ~j ~E '\"objects\" X $Mine.Internal.qP ( $Mine.Internal.lS ~H '\"code\" X $Mine.Internal.jx ( $Mine.Internal.iO ~H '\"data\" X $Mine.Internal.q8 ( $Mine.Internal.n6 ~H '\"rows\" X $Mine.Internal.q0 ( $Mine.Internal.kD ~H '\"bytes\" X $Mine.Internal.nT ( $Mine.Internal.jt } b3 ') d5 ~1 f1 c0 f1 ~A\nrwrfl='try '( 'with_reducible 'rfl b42 % c23 ~X % c57\ny='( '( 'repeat' ~C 'exact $Mine.Internal.Le ~x $Mine.Internal.Lg ~x $Mine.Internal.Ld ~x $Mine.Internal.Lc ~x $inferInstance c29 ~R $Mine.Internal.Lf ? ~O ~1 g1 c0 % c58 ~X '; 'done b34 d1 ~A\npin2='( ~o $Mine.Internal.pin2 ~u $Mine.Internal.tup2 ~Z c1 ~T @0 ~h ( ~I $Mine.Internal.tup2 ~Z c1 ~T @1 ~Y f1 ~A\npin3='( ~o $Mine.Internal.pin3 ~u ~3 ~T @0 ~J ( ~I ~3 # '= @1 ~h - ~3 # '= @2 ~Y h1 ~A\npin5='( ~o $Mine.Internal.pin5 ~u ~N ~T @0 ~J ( ~I ~N # '= @1 ~J - ~N # b1 Z '= @2 ~J - ~I ~N # b1 ~T @3 ~h - ~I ~I ~N # b1 ~T @4 ~Y l1 ~A\npin8='( ~o $Mine.Internal.pin8 ~u ~t ~T @0 ~J ( ~I ~t # '= @1 ~J - ~t # b1 Z '= @2 ~J - ~I ~t # b1 ~T @3 ~J - ~I ~I ~t # b1 # '= @4 ~J - $Prod.snd - ~t # b1 # b1 Z '= @5 ~J - $Prod.snd - ~I ~t # b1 # b1 ~T @6 ~h - $Prod.snd - ~I ~I ~t # b1 # b1 ~T @7 ~Y r1 ~A\nseq2='( @0 '; @1 d1 ~A\nfirst2=~C @0 ~l @1 ~1 ~4\ndelta=~C '( ~o 'fun ( @0 ': ( _ ': 'Prop b15 b1 ') f13 b1 ') f13 b1 a1 '=> ? e12 c11 ') d8 c7 c6 ~X ~l '( '( ~C ~o $Mine.Internal.Kv ~2 $Mine.Internal.La ~2 $Mine.Internal.Lb ~2 $Mine.Internal.L9 ~2 $Mine.Internal.L8 ? b1 Z c7 c6 ~1 f1 c0 ~X '; 'generalize a1 $Mine.Internal.Cz _ b1 c17 '= @0 ~Y ~f '| 'intro @0 b1 c20 ~1 d1 c0\ninj2=~C 'refine $Mine.Internal.cf.icons @0 'fun ~Z @1 @2 e1 ~D ~R $Mine.Internal.ko.icons @0 'fun ~Z @1 @2 e1 ~D ~R $Mine.Internal.lj.icons @0 'fun ~Z @1 @2 e1 ~D ~l ~P $Mine.Internal.Ls @0 'fun @1 @2 c1 ~D ~X ~l ~P $Mine.Internal.LI @0 ~O '; 'generalize a1 $Mine.Internal.L6 _ b1 c17 '= @1 ~Y '; 'intro @2 b1 c20 f1 ~A ~l ~P $Exists.elim @0 'fun @1 @2 c1 ~D ~X ~1 g1 c0\ninj1=~C 'refine $Mine.Internal.VR.iloc @0 ~O ~R $Mine.Internal.VR.iint @0 'fun _ b1 ~D ~R $Mine.Internal.VR.istr @0 'fun _ b1 ~D ~R $Mine.Internal.VR.ibool @0 ~O ~R $Mine.Internal.VR.inone @0 ~O ~R $Mine.Internal.cf.i0 @0 ~O ~l 'cases a1 @0 c22 b1 a1 a1 e21 ~1 h1 c0\nomega=~L 'assumption b24 % c23 ~l 'decide a1 b26 c25 ~1 ~b '@ $LE.le c28 $Nat ~Z _ e1 Q ~C 'exact $Nat.le_refl _ b1 c17 ~x $Nat.le_add_right ~Z c1 c17 ~x $Nat.le_add_left ~Z c1 c17 ~x $Nat.le_succ_of_le ~a b1 c17 ~x $Nat.le_of_lt ~a b1 c17 ~x $Nat.le_trans ~a ~a c1 c17 ~x $Nat.le_trans ~B c17 ~x $Nat.le_trans ~a ( $Nat.le_trans ~B Z c1 c17 c29 ~1 i1 c0 < '@ $LT.lt c28 $Nat ~Z _ e1 Q ~C 'exact $Nat.lt_succ_self _ b1 c17 ~x $Nat.lt_succ_of_lt ~a b1 c17 ~x $Nat.lt_of_lt_of_le ~a ~a c1 c17 ~x $Nat.lt_of_le_of_lt ~a ~a c1 c17 ~x $Nat.lt_of_lt_of_le ~B c17 c29 ~1 f1 c0 ~f '| '( 'simp '+ $arith c33 b32 b1 b26 a1 'only b1 a1 a1 g31 '; 'done b34 ~f '| 'lia a1 b26 c35 ~l 'omega '( $splitDisjunctions ':= $Bool.true ') f37 b32 b1 b26 c36 ~1 h1 c0\nrw=~C 'refine $Mine.Internal.LH @0 ~O ~R $Mine.Internal.LG @0 ~O ~l @1 ~1 d1 c0\nrwb=~C 'refine $Mine.Internal.LD @0 ~O ~R $Mine.Internal.LF @0 ~O ~l @1 ~1 d1 c0\ntc='try 'clear @0 b1 c59 % c57\nsbc=~C 'subst @0 b1 c60 ~l 'cases a1 @0 c22 b1 a1 a1 e21 ~1 ~4\nrfw=~P @0 c6 ~0 d1 ~A\nkr='kernel_rfl b62\n"
def LK:List String:="~9 $Mine.Internal.TS _ ( '.\n~8 'omega a1 b26 c36\n~7 ~q ~l 'fail\n~6 % c30 ') d8\n~5 ~m '\"a\" &\n~4 c1 c0\n~3 $Mine.Internal.tup3 ~Z c1\n~2 ? b1 Z c7 c6 ~l ~o\n~1 % c2\n~0 ~F '\"w\" ~q\n~Z _ _\n~Y e19 b1 a1 d18\n~X % ') d5\n~W ~f ~i 'refine\n~V d53 ', a1 a1\n~U ? b1 ~n\n~T Z b1 Z '=\n~S $Mine.Internal.TE _\n~R ~l 'refine\n~Q 'with_reducible 'refine\n~P '( 'refine\n~O ? c1 ~n\n~N $Mine.Internal.tup5 _ _ c1\n~M $Mine.Internal.EV _ _ ( '.\n~L 'first ~i\n~K ( 'by 'decide a1 b26 c25 % c30 ') d8\n~J ~h ( $Prod.fst\n~I $Prod.snd (\n~H } ^ $x\n~G ~m '\"h\" &\n~F '; 'fail\n~E $x b1 a1 '=> $PySem.getAttr $x\n~D a1 '=> ? e12 c11 c1 ~n\n~C 'first '|\n~B ~a ( 'by 'exact $Nat.le_of_ble_eq_true $rfl b1 c17 c29 % c30 ') d8 c1\n~A b4 b3 ') d5\n~z ? b1 ~n % c23 % c2\n~y _ _ _ f1 Q 'refine\n~x c29 ~l 'exact\n~w _ b1 Z (\n~v ~q d1 b4 b3 c23 % ') d5 % c2\n~u ~m '\"y\" & ? c1 Z c7 c6 '; 'generalize a1 ( $Prod.fst (\n~t $Mine.Internal.tup8 _ _ c1\n~s ` '; 'refine\n~r c38 % c23 ~l '( 'with_reducible 'apply\n~q b40 b1 c39\n~p c38 * 'apply\n~o 'refine 'no_implicit_lambda% (\n~n c17 c6\n~m ( 'by 'fail\n~l % c2 '|\n~k $Mine.Internal.TB _ ( '. $Compare c41 _ '[\n~j 'refine $Mine.Internal.dq ? b1 c17 c6 '; 'fail '\"w\" b40 b1 c39 '; 'first ~b $Mine.Internal.T1 _ ( 'fun\n~i '| 'with_reducible\n~h e19 b1 a1 d18 '; 'generalize a1\n~g b1 '] d44 '[ _ b1 '] d44 _ e1 Z _ _ _ f1 Q 'first '| 'refine\n~f d1 b4 b3 ') d5 % c2\n~e { '\"e\" & ? e1 c17 c6 d1 b4 ^ $x\n~d $Mine.Internal.i3 ! $Mine.Internal.yM ( 'by 'fail '\"h\" & ? c1 c17 c6 % c2\n~c ? b1 c17 c6 * 'refine\n~b '| '( '( 'with_reducible 'show\n~a ( 'by 'with_reducible 'assumption b24 % c23 % c30 ') d8\n- ( $Prod.snd ( $Prod.snd (\nZ c17 ') d8\nY b40 $z d1 c17 e12 c11 ') d8 _ _ _ _ _ h1 Q 'refine\nX ` '; 'refine $Mine.Internal.eB\nQ c17 c27 % c23 % ') d5 ';\n! ( 'by 'fail '\"h\" & ( 'by 'fail '\"h\" & ? d1 c17 c6 % c2 '| 'refine\n# c17 ') d8 b1 c17 ') d8 b1 c17 ') d8\n/ '\"b\" & ? e1 c17 c6 < $Mine.Internal.T3 _ ( 'fun $x _ $z d1 a1 '=> $PySem.setAttr $x\n* % c23 % c2 '| 'with_reducible\n< d1 b4 b3 ') d5 % c2 '| '( '( 'with_reducible 'show\n} ( 'by 'assumption b24 % c30 ') d8 b1 c17 ') d8 ? d1 c17 c6 d1 b4\n{ ( 'by 'assumption b24 % c30 ') d8 ( 'by 'fail '\"e\" & ( 'by 'fail\n& b40 b1 c39 % c30 ') d8\n` b40 $Bool.true d1 c17 e12 c11 ') d8 _ _ _ f1 c17 c27 % c23 % ') d5\n^ b3 ') d5 % c2 '| '( '( 'with_reducible 'show $Mine.Internal.T1 _ ( 'fun $x b1 a1 '=> $PySem.getAttr".splitOn "\n"
def kj (s:String) (as:List Lean.Syntax):Lean.Syntax:=match yR.splitOn ("\n"++s++"=")with
 | [_,r]=>LJ (LK.foldl (fun s e=>match e.splitOn " " with|c::x=>s.replace c (" ".intercalate x)|[]=>s) ((r.splitOn "\n").headD "")) as
 | _=>.missing
def two (a b:Lean.Syntax):Lean.Syntax:=kj "seq2" [a,b]
def L3 (s:String):Lean.Syntax:=.ident .none s.toRawSubstring s.toName []
def mr (xs:List Lean.Syntax):Lean.Syntax:=nd "Lean.Parser.Tactic.delta" [.atom .none "delta",nd "null" xs,nd "null" []]
def CA:List Lean.Syntax→Lean.Syntax
 | []=>.missing
 | [x]=>kj "delta" [x]
 | x::r=>[2,3,5,8].foldl (fun acc n=>if r.length+1<n then acc else
  let p:=kj ("pin"++toString n) ((x::r).take n)
  kj "first2" [if r.length+1==n then p else two p (mr ((x::r).drop n)),acc]) (two (mr [x]) (mr r))
def D7 (r:Lean.Syntax):Lean.Syntax:=
 let e:=r[1]
 let el:=nd "Lean.Parser.Term.ellipsis" [.atom .none ".."]
 let e:=if e.isOfKind `Lean.Parser.Term.app then nd "Lean.Parser.Term.app" [e[0],nd "null" (e[1].getArgs.toList++[el])]else nd "Lean.Parser.Term.app" [e,nd "null" [el]]
 kj (if r[0].getArgs.isEmpty then "rw" else "rwb") [e,nd "Lean.Parser.Tactic.rewriteSeq" [.atom .none "rewrite",nd "Lean.Parser.Tactic.optConfig" [nd "null" []],nd "Lean.Parser.Tactic.rwRuleSeq" [.atom .none "[",nd "null" [r],.atom .none "]"],nd "null" []]]
def Lx:List Lean.Syntax→Lean.Syntax
 | []=>kj "rwrfl" []
 | r::rs=>two (D7 r) (Lx rs)
def Ll (n:Lean.Name) (a:Lean.Syntax):Bool:=a.isIdent&&a.getId==n
def KE:Nat→List Lean.Syntax→Lean.Syntax→List Lean.Syntax→Lean.Syntax
 | i,post,h,a::r=>
  let z:=L3 ("z'"++toString i)
  let f:=Ll `rfl a
  let x:=if a.isIdent&&!f then a else z
  let post:=if f then post++[kj "sbc" [z]]else post
  if r.isEmpty then post.foldr two (kj "tc" [L3 "z'"])else
   let p:=match r with
    | [b]=>b.isIdent&&!Ll `rfl b
    | _=>false
   let y:=if p then r.headD h else L3 ((if r.length==1 then "z'" else "w'")++toString (i+1))
   let one:=kj "inj2" [h,x,y]
   let one:=if h.isIdent&&!(a::r).any (Ll h.getId)then two one (kj "tc" [h])else one
   two one (KE (i+1) post y r)
 | _,_,_,[]=>.missing
def zK (xs:List Lean.Syntax) (l:Lean.Syntax):Lean.Syntax:=
 if !l[1].isOfKind `Lean.Parser.Tactic.locationHyp then .missing else
 let hs:=l[1][0].getArgs.toList.filter (·.isIdent)
 let rev (ys:List Lean.Syntax):Lean.Syntax:=nd "Lean.Parser.Tactic.revert" [.atom .none "revert",nd "null" ys]
 let one:=two (rev xs) (mr xs)
 if hs.isEmpty then one else two (rev hs) (two one (nd "Lean.Parser.Tactic.intro" [.atom .none "intro",nd "null" hs]))
def KP (s:Lean.Syntax):Lean.MacroM Lean.Syntax:=if s.isMissing then Lean.Macro.throwUnsupported else pure s
def KS (s:Lean.Syntax):Lean.Syntax:=
 if s.getPos?.isNone||s[1][1][0].getId==`hd then .missing else
  let t:=s.rewriteBottomUp fun t=>t.setInfo .none
  if s[1][1][0].getId==`tws then
   nd "null" (((s[0][0][0][1].getAtomVal.splitOn " ").filter fun x=>x.front.isDigit).map fun x=>(t.setArg 0 (t[0].setArg 0 (nd "null" []))).setArg 1 (t[1].setArg 1 (t[1][1].setArg 0 (L3 ("hd.tw"++x)))))
  else if(t[1].isOfKind `Lean.Parser.Command.definition||t[1].isOfKind `Lean.Parser.Command.abbrev)&&t[0][4].getNumArgs==0 then t.setArg 0 (t[0].setArg 4 (nd "null" [nd "Lean.Parser.Command.noncomputable" [.atom .none "noncomputable"]]))else t
def Lr (s:Lean.Syntax):Lean.MacroM Lean.Syntax:=KP (KS s)
def Lh (s:Lean.Syntax):Lean.Syntax:=
 let as (x:Lean.Syntax):=x.getArgs.toList
 match s.getKind with
 | .str _ "fail"=>kj (s[1][0].isStrLit?.getD "") []
 | .str _ "injection"=>if s[2].getNumArgs==0 then kj "inj1" [s[1]]else KE 0 [] s[1] (as s[2][1])
 | .str _ "delta"=>if s[2].getNumArgs==0 then CA (as s[1])else zK (as s[1]) s[2][0]
 | .str _ "tacticNofun"=>kj "kr" []
 | .str _ "refine'"=>kj "rfw" [s[1]]
 | .str _ "omega"=>if s[1][0].getNumArgs==0 then kj "omega" []else .missing
 | _=>if s[1][0].getNumArgs==0&&s[3].getNumArgs==0 then Lx s[2][1].getSepArgs.toList else .missing
def Cm (s:Lean.Syntax):Lean.MacroM Lean.Syntax:=KP (Lh s)
def tS (l:List Lean.Syntax):Lean.Syntax:=nd "Lean.Parser.Tactic.tacticSeq" [nd "Lean.Parser.Tactic.tacticSeq1Indented" [nd "null" (l++[nd "Lean.Parser.Tactic.tacticRfl" [.atom .none "rfl"]])]]
def tR:Lean.Syntax:=tS []
def tI:Lean.Syntax:=tS [nd "Lean.Parser.Tactic.intros" [.atom .none "intros",nd "null" []],.atom .none ";"]
local macro_rules (kind := Lean.Parser.Command.declaration) | s => Lr s
structure jT where
 prog:Program
 w:World
 h1:Heap
 K:Frag
 mg:Str→Option Value
 mb:Str→Option Value
 os:OsState
 kin:K.In h1
 ng:h1.Ns mainGlobals mg
 nb:h1.Ns builtinsNs mb
 lim:h1.NoLimit
 sysm:∃a o,sysModules<a∧h1.get? a=some o
abbrev jT.M (T:jT):Model:=model T.prog T.w
def jT.glob (T:jT) (x:Str) (v:Value):Prop:=T.mg x=some v∨(T.mg x=none∧T.mb x=some v)
abbrev ft:Value→Shared→Prop:=fun U U=>False
def oK (T:jT):Prop:=T.K=hp.heap_1 T.w.params∧∀x:Str,x ≠ "__name__"→T.mb x=bootBuiltins x
def oM (T:jT):Prop:=∀(s:Shared) (l:Addr) (vs:List Value) (us:List Int) (R:Value→Shared→Prop),s.heap=T.h1→s.gens=#[]→s.os=T.os→T.h1.get? l=some { cls:=.type "list",data:=.seq vs.toArray }→IntsAre vs us→us.length≤1000→
 (∀s':Shared,(∀a o,T.h1.get? a=some o→s'.heap.get? a=some o)→s'.gens=#[]→s'.os=T.os→R (.bool true) s')→wpAny (model T.prog T.w) callerA (call (.ref 348) [.ref l]) R ft s
def y4:Heap:={ objs:=(List.replicate 6 ({ cls:=.type "dict",dict:=none,data:=.dict #[] 0 }:Obj)).toArray,life:=default }
theorem rN:Nonempty jT:=by
 have e:∀a,a<6→y4.get? a=some ({ cls:=.type "dict",dict:=none,data:=.dict #[] 0 }:Obj):=by
  intro a h;iterate 6 (rcases Nat.lt_succ_iff_lt_or_eq.mp h with h|h;rotate_left;(subst h;rfl))
  exact absurd h (Nat.not_lt_zero _)
 have ns:∀a,a<6→y4.Ns a (fun U=>none):=fun a h=>⟨_,_,_,e a h,rfl,fun U he=>by simp at he,fun U=>rfl⟩
 exact⟨{ prog:=PySem.Challenge.pw_on0213_01,w:={ draws:=fun U U=>0,params:={ strHash:=fun U=>0,shareClass:=fun U=>0,mergeTok:=id,idOf:=fun U=>0,idOfShared:=fun U U=>0,followText:=fun U=>false,idOfImm:=fun U=>0 } },h1:=y4,K:=[],mg:=fun U=>none,mb:=fun U=>none,os:=default,kin:=fun a o h=>by simp at h,ng:=ns _ (by decide),nb:=ns _ (by decide),lim:=⟨_,ns _ (by decide),rfl⟩,sysm:=⟨2,_,by decide,e 2 (by decide)⟩ }⟩
@[irreducible] def S:jT:=@Classical.epsilon jT rN fun T=>oK T∧¬oM T
theorem CG (h:∃T,oK T∧¬oM T):oK S∧¬oM S:=by
 unfold S;obtain⟨T,h⟩:=h;exact Classical.epsilon_spec (p:=fun T=>oK T∧¬oM T) ⟨T,h⟩
theorem ym (h:oK S→oM S) (T:jT) (g:oK T):oM T:=Classical.byContradiction fun n=>
 have:=CG ⟨T,g,n⟩
 this.2 (h this.1)
@[irreducible] def Cz {α:Sort u} {i:Nonempty α} (P:α→Prop):α:=@Classical.epsilon α i (fun a=>¬P a)
theorem Kv {α:Sort u} [i:Nonempty α] {P:α→Prop} (h:P (@Cz α i P)):∀a,P a:=fun a=>Classical.byContradiction fun n=>(Classical.epsilon_spec (p:=fun a=>¬P a) ⟨a,n⟩) (by unfold Cz at h;exact h)
theorem Le:Nonempty Shared:=⟨{}⟩
theorem Lg:Nonempty Around:=⟨{}⟩
theorem Ld:Nonempty SortSt:=⟨SortSt.mk' oneType' #[] #[] 0 none⟩
theorem Lc:Nonempty World:=rN.elim fun T=>⟨T.w⟩
theorem La {P:Shared→Prop} (h:P (@Cz Shared Le P)):∀a,P a:=@Kv _ Le P h
theorem Lb {P:Around→Prop} (h:P (@Cz Around Lg P)):∀a,P a:=@Kv _ Lg P h
theorem L9 {P:SortSt→Prop} (h:P (@Cz SortSt Ld P)):∀a,P a:=@Kv _ Ld P h
theorem L8 {P:World→Prop} (h:P (@Cz World Lc P)):∀a,P a:=@Kv _ Lc P h
@[irreducible] def L6 {α:Sort u} {i:Nonempty α} (P:α→Prop):α:=@Classical.epsilon α i P
theorem LI {α:Sort u} [i:Nonempty α] {P:α→Prop} {b:Prop} (h:∃a,P a) (k:P (@L6 α i P)→b):b:=k (by unfold L6;exact Classical.epsilon_spec h)
theorem tT {α:Type} {o:Option α} {x:α} (h:o=some x):∃y,o=some y:=⟨x,h⟩
theorem M6 {p:Prop} (_:p):True:=trivial
theorem Ls {a b c:Prop} (h:a∧b) (k:a→b→c):c:=k h.1 h.2
theorem tU {α β:Type} {P:α×β→Prop} (h:∃p,P p):∃a b,P (a,b):=h.elim fun p h=>⟨p.1,p.2,h⟩
@[elab_as_elim] theorem LH {α:Sort u} {a b:α} {motive:α→Prop} (h:a=b) (p:motive b):motive a:=h▸p
@[elab_as_elim] theorem LD {α:Sort u} {a b:α} {motive:α→Prop} (h:a=b) (p:motive a):motive b:=h▸p
@[elab_as_elim] theorem LG {a b:Prop} {motive:Prop→Prop} (h:a↔b) (p:motive b):motive a:=propext h▸p
@[elab_as_elim] theorem LF {a b:Prop} {motive:Prop→Prop} (h:a↔b) (p:motive a):motive b:=propext h▸p
theorem Lf {α:Type u} {β:Type v} (a:Nonempty α) (b:Nonempty β):Nonempty (α×β):=a.elim fun a=>b.elim fun b=>⟨(a,b)⟩
@[irreducible] def tup2.{u0,u1} {α0:Type u0} {α1:Type u1} (i:Nonempty (α0×α1)) (P:α0→α1→Prop):α0×α1:=@Classical.epsilon _ i fun t=>¬P (t.1) (t.2)
theorem pin2.{u0,u1} {α0:Type u0} {α1:Type u1} {P:α0→α1→Prop} (i:Nonempty (α0×α1)) (h:P ((tup2 i P).1) ((tup2 i P).2)):∀a0 a1,P a0 a1:=fun a0 a1=>Classical.byContradiction fun n=>(Classical.epsilon_spec (p:=fun t=>¬P (t.1) (t.2)) ⟨(a0,a1),n⟩) (by unfold tup2 at h;exact h)
@[irreducible] def tup3.{u0,u1,u2} {α0:Type u0} {α1:Type u1} {α2:Type u2} (i:Nonempty (α0×α1×α2)) (P:α0→α1→α2→Prop):α0×α1×α2:=@Classical.epsilon _ i fun t=>¬P (t.1) (t.2.1) (t.2.2)
theorem pin3.{u0,u1,u2} {α0:Type u0} {α1:Type u1} {α2:Type u2} {P:α0→α1→α2→Prop} (i:Nonempty (α0×α1×α2)) (h:P ((tup3 i P).1) ((tup3 i P).2.1) ((tup3 i P).2.2)):∀a0 a1 a2,P a0 a1 a2:=fun a0 a1 a2=>Classical.byContradiction fun n=>(Classical.epsilon_spec (p:=fun t=>¬P (t.1) (t.2.1) (t.2.2)) ⟨(a0,a1,a2),n⟩) (by unfold tup3 at h;exact h)
@[irreducible] def tup5.{u0,u1,u2,u3,u4} {α0:Type u0} {α1:Type u1} {α2:Type u2} {α3:Type u3} {α4:Type u4} (i:Nonempty (α0×α1×α2×α3×α4)) (P:α0→α1→α2→α3→α4→Prop):α0×α1×α2×α3×α4:=@Classical.epsilon _ i fun t=>¬P (t.1) (t.2.1) (t.2.2.1) (t.2.2.2.1) (t.2.2.2.2)
theorem pin5.{u0,u1,u2,u3,u4} {α0:Type u0} {α1:Type u1} {α2:Type u2} {α3:Type u3} {α4:Type u4} {P:α0→α1→α2→α3→α4→Prop} (i:Nonempty (α0×α1×α2×α3×α4)) (h:P ((tup5 i P).1) ((tup5 i P).2.1) ((tup5 i P).2.2.1) ((tup5 i P).2.2.2.1) ((tup5 i P).2.2.2.2)):∀a0 a1 a2 a3 a4,P a0 a1 a2 a3 a4:=fun a0 a1 a2 a3 a4=>Classical.byContradiction fun n=>(Classical.epsilon_spec (p:=fun t=>¬P (t.1) (t.2.1) (t.2.2.1) (t.2.2.2.1) (t.2.2.2.2)) ⟨(a0,a1,a2,a3,a4),n⟩) (by unfold tup5 at h;exact h)
@[irreducible] def tup8.{u0,u1,u2,u3,u4,u5,u6,u7} {α0:Type u0} {α1:Type u1} {α2:Type u2} {α3:Type u3} {α4:Type u4} {α5:Type u5} {α6:Type u6} {α7:Type u7} (i:Nonempty (α0×α1×α2×α3×α4×α5×α6×α7)) (P:α0→α1→α2→α3→α4→α5→α6→α7→Prop):α0×α1×α2×α3×α4×α5×α6×α7:=@Classical.epsilon _ i fun t=>¬P (t.1) (t.2.1) (t.2.2.1) (t.2.2.2.1) (t.2.2.2.2.1) (t.2.2.2.2.2.1) (t.2.2.2.2.2.2.1) (t.2.2.2.2.2.2.2)
theorem pin8.{u0,u1,u2,u3,u4,u5,u6,u7} {α0:Type u0} {α1:Type u1} {α2:Type u2} {α3:Type u3} {α4:Type u4} {α5:Type u5} {α6:Type u6} {α7:Type u7} {P:α0→α1→α2→α3→α4→α5→α6→α7→Prop} (i:Nonempty (α0×α1×α2×α3×α4×α5×α6×α7)) (h:P ((tup8 i P).1) ((tup8 i P).2.1) ((tup8 i P).2.2.1) ((tup8 i P).2.2.2.1) ((tup8 i P).2.2.2.2.1) ((tup8 i P).2.2.2.2.2.1) ((tup8 i P).2.2.2.2.2.2.1) ((tup8 i P).2.2.2.2.2.2.2)):∀a0 a1 a2 a3 a4 a5 a6 a7,P a0 a1 a2 a3 a4 a5 a6 a7:=fun a0 a1 a2 a3 a4 a5 a6 a7=>Classical.byContradiction fun n=>(Classical.epsilon_spec (p:=fun t=>¬P (t.1) (t.2.1) (t.2.2.1) (t.2.2.2.1) (t.2.2.2.2.1) (t.2.2.2.2.2.1) (t.2.2.2.2.2.2.1) (t.2.2.2.2.2.2.2)) ⟨(a0,a1,a2,a3,a4,a5,a6,a7),n⟩) (by unfold tup8 at h;exact h)
namespace FM
inductive X where
 | v (i:Nat)
 | n (k:Nat)
 | m (f:Bool) (k:Nat) (x:X)
 | b (op:Nat) (x y:X)
structure D where
 N:Nat
 I:Int
 P:Prop
def dG (c:List Nat) (z:List Int):X→D
 | .v i=>⟨c.getD i 0,z.getD i 0,True⟩
 | .n k=>⟨k,Int.ofNat k,False⟩
 | .m f k x=>match f with
  | true=>⟨k*(dG c z x).N,Int.ofNat k*(dG c z x).I,False⟩
  | false=>⟨(dG c z x).N*k,(dG c z x).I*Int.ofNat k,False⟩
 | .b op x y=>match op with
  | 0=>⟨(dG c z x).N+(dG c z y).N,(dG c z x).I+(dG c z y).I,(dG c z x).P∧(dG c z y).P⟩
  | 1=>⟨(dG c z x).N-(dG c z y).N,(dG c z x).I-(dG c z y).I,(dG c z x).P∨(dG c z y).P⟩
  | 2=>⟨0,0,¬(dG c z x).P⟩
  | 3=>⟨max (dG c z x).N (dG c z y).N,-(dG c z x).I,(dG c z x).P→(dG c z y).P⟩
  | 4=>⟨min (dG c z x).N (dG c z y).N,(dG c z x).N,(dG c z x).N≤(dG c z y).N⟩
  | 5=>⟨(dG c z x).I.toNat,0,(dG c z x).N<(dG c z y).N⟩
  | 6=>⟨0,0,(dG c z x).N=(dG c z y).N⟩
  | 7=>⟨0,0,(dG c z x).I≤(dG c z y).I⟩
  | 8=>⟨0,0,(dG c z x).I<(dG c z y).I⟩
  | _=>⟨0,0,(dG c z x).I=(dG c z y).I⟩
abbrev L:=Int×List Int
def ev (f:Nat→Int):List Int→Int
 | []=>0
 | a::l=>a*f 0+ev (fun i=>f (i+1)) l
def zU:List Int→List Int→List Int
 | [],l=>l
 | l,[]=>l
 | a::l,b::m=>(a+b)::zU l m
def zr (k:Int):List Int→List Int
 | []=>[]
 | a::l=>(k*a)::zr k l
def rC:Nat→List Int
 | 0=>[1]
 | i+1=>0::rC i
theorem Lu (a b c d:Int):a+b+(c+d)=a+c+(b+d):=by rw[Int.add_assoc,Int.add_assoc,Int.add_left_comm b]
theorem nn {a b:Int} (h:b≤a):0≤a-b:=Int.sub_nonneg_of_le h
theorem ns {a b:Int} (h:b<a):0≤a-b-1:=nn (Int.sub_pos_of_lt h)
theorem qT:∀(f:Nat→Int) l m,ev f (zU l m)=ev f l+ev f m
 | _,[],_=>(Int.zero_add _).symm
 | _,_::_,[]=>(Int.add_zero _).symm
 | f,a::l,b::m=>by
  show(a+b)*f 0+ev _ (zU l m)=a*f 0+ev _ l+(b*f 0+ev _ m)
  rw[qT _ l m,Int.add_mul];exact Lu ..
theorem yc (k:Int):∀(f:Nat→Int) l,ev f (zr k l)=k*ev f l
 | _,[]=>(Int.mul_zero _).symm
 | f,a::l=>by
  show k*a*f 0+ev _ (zr k l)=k*(a*f 0+ev _ l)
  rw[yc k _ l,Int.mul_add,Int.mul_assoc]
theorem mx:∀(i:Nat) (f:Nat→Int),ev f (rC i)=f i
 | 0,f=>(Int.add_zero _).trans (Int.one_mul _)
 | i+1,f=>by
  show 0*f 0+ev _ (rC i)=f (i+1)
  rw[mx i,Int.zero_mul,Int.zero_add]
def bF (f:Nat→Int) (l:L):Int:=l.1+ev f l.2
def d0 (l m:L):L:=(l.1+m.1,zU l.2 m.2)
def qJ (k:Int) (l:L):L:=(k*l.1,zr k l.2)
theorem j3 (f:Nat→Int) (l m:L):bF f (d0 l m)=bF f l+bF f m:=(congrArg (l.1+m.1+·) (qT f l.2 m.2)).trans (Lu ..)
theorem j2 (f:Nat→Int) (k:Int) (l:L):bF f (qJ k l)=k*bF f l:=(congrArg (k*l.1+·) (yc k f l.2)).trans (Int.mul_add ..).symm
def ku (l:L):Int:=l.2.headD 0
def yE (l:L):L:=(l.1,l.2.tail)
theorem uO (f:Nat→Int):∀(l:L),bF f l=ku l*f 0+bF (fun i=>f (i+1)) (yE l)
 | (k,[])=>by
  show k+0=0*f 0+(k+0)
  rw[Int.zero_mul,Int.zero_add]
 | (k,a::l)=>Int.add_left_comm k (a*f 0) (ev _ l)
def fm:Nat→List L→Bool
 | 0,cs=>cs.any fun l=>l.2.all (·==0)&&l.1<0
 | n+1,cs=>
  let ps:=cs.filter fun l=>0<ku l
  let ns:=cs.filter fun l=>ku l<0
  let zs:=(cs.filter fun l=>ku l==0).map yE
  fm n (ps.foldr (fun p r=>ns.foldr (fun q r=>d0 (qJ (-ku q) (yE p)) (qJ (ku p) (yE q))::r) r) zs)
theorem vg:∀(l:List Int) (f:Nat→Int),l.all (·==0)=true→ev f l=0
 | [],_,_=>rfl
 | a::l,f,h=>by
  have h:(a==0&&l.all (·==0))=true:=h
  have h:=Bool.and_eq_true_iff.mp h
  show a*f 0+ev _ l=0
  rw[beq_iff_eq.mp h.1,vg l _ h.2,Int.zero_mul];rfl
theorem BE:∀(n:Nat) (cs:List L) (f:Nat→Int),fm n cs=true→¬∀l∈cs,0≤bF f l
 | 0,cs,f,h,H=>by
  obtain⟨l,hl,h⟩:=List.any_eq_true.mp (show(cs.any fun l=>l.2.all (·==0)&&l.1<0)=true from h);have h:=Bool.and_eq_true_iff.mp h
  have:=H l hl
  rw[bF,vg _ _ h.1,Int.add_zero]at this;exact Int.not_lt.mpr this (of_decide_eq_true h.2)
 | n+1,cs,f,h,H=>by
  refine BE n _ (fun i=>f (i+1)) h ?_
  have hz:∀l∈(cs.filter fun l=>ku l==0).map yE,0≤bF (fun i=>f (i+1)) l:=by
   intro l hl;obtain⟨m,hm,rfl⟩:=List.mem_map.mp hl;obtain⟨hm,h0⟩:=List.mem_filter.mp hm;have:=H m hm
   rw[uO,beq_iff_eq.mp h0,Int.zero_mul,Int.zero_add]at this;exact this
  have inner:∀(p:L) (ns r:List L),p∈cs→0<ku p→(∀q∈ns,q∈cs∧ku q<0)→(∀l∈r,0≤bF (fun i=>f (i+1)) l)→
   ∀l∈ns.foldr (fun q r=>d0 (qJ (-ku q) (yE p)) (qJ (ku p) (yE q))::r) r,0≤bF (fun i=>f (i+1)) l:=by
   intro p ns r hp h0 hn hr;induction ns with
   | nil=>exact hr
   | cons q ns ih=>
    intro l hl;rcases List.mem_cons.mp hl with rfl|hl
    ·have a:=H p hp
     have b:=H q (hn q List.mem_cons_self).1
     have c:=(hn q List.mem_cons_self).2
     rw[uO]at a b;rw[j3,j2,j2];have a':=Int.mul_nonneg (Int.le_of_lt (Int.neg_pos_of_neg c)) a
     have b':=Int.mul_nonneg (Int.le_of_lt h0) b
     have e:-ku q*(ku p*f 0)+ku p*(ku q*f 0)=0:=by
      rw[←Int.mul_assoc,←Int.mul_assoc,←Int.add_mul,Int.mul_comm (ku p),Int.neg_mul,Int.add_left_neg,Int.zero_mul]
     have r:=Int.add_nonneg a' b'
     rw[Int.mul_add,Int.mul_add,Lu,e,Int.zero_add]at r;exact r
    ·exact ih (fun q hq=>hn q (List.mem_cons_of_mem _ hq)) l hl
  have outer:∀(ps r:List L),(∀p∈ps,p∈cs∧0<ku p)→(∀l∈r,0≤bF (fun i=>f (i+1)) l)→
   ∀l∈ps.foldr (fun p r=>(cs.filter fun l=>ku l<0).foldr (fun q r=>d0 (qJ (-ku q) (yE p)) (qJ (ku p) (yE q))::r) r) r,0≤bF (fun i=>f (i+1)) l:=by
   intro ps r hps hr;induction ps with
   | nil=>exact hr
   | cons p ps ih=>
    refine inner p _ _ (hps p List.mem_cons_self).1 (hps p List.mem_cons_self).2 (fun q hq=>?_) (ih fun p hp=>hps p (List.mem_cons_of_mem _ hp));obtain⟨a,b⟩:=List.mem_filter.mp hq;exact⟨a,of_decide_eq_true b⟩
  refine outer _ _ (fun p hp=>?_) hz;obtain⟨a,b⟩:=List.mem_filter.mp hp;exact⟨a,of_decide_eq_true b⟩
abbrev iz:=List (List L×L)
def ot (f:L→L→iz) (a b:iz):iz:=a.flatMap fun x=>b.flatMap fun y=>(f x.2 y.2).map fun r=>(x.1++(y.1++r.1),r.2)
def fU (l:L):L:=qJ (-1) l
def zD (a b:L):iz:=[([],d0 a b)]
def KH (a b:L):iz:=[([d0 a (fU b)],d0 a (fU b)),([d0 (-1,[]) (d0 b (fU a))],(0,[]))]
def KN (a b:L):iz:=[([],d0 a (fU b))]
def KM (a b:L):iz:=[([d0 a (fU b)],a),([d0 (-1,[]) (d0 b (fU a))],b)]
def KL (a b:L):iz:=[([d0 a (fU b)],b),([d0 (-1,[]) (d0 b (fU a))],a)]
def KI (_ a:L):iz:=[([],fU a)]
def KJ (_ a:L):iz:=[([a],a),([d0 (-1,[]) (fU a)],(0,[]))]
def zC (k:Nat) (_ a:L):iz:=[([],qJ (Int.ofNat k) a)]
def gc (n:Nat):X→iz×iz
 | .v i=>([([],(0,bif Nat.blt i n then rC i else[]))],[([],(0,rC (n+i)))])
 | .n k=>([([],(Int.ofNat k,[]))],[([],(Int.ofNat k,[]))])
 | .m _ k x=>(ot (zC k) [([],(0,[]))] (gc n x).1,ot (zC k) [([],(0,[]))] (gc n x).2)
 | .b op x y=>match op with
  | 0=>(ot zD (gc n x).1 (gc n y).1,ot zD (gc n x).2 (gc n y).2)
  | 1=>(ot KH (gc n x).1 (gc n y).1,ot KN (gc n x).2 (gc n y).2)
  | 3=>(ot KM (gc n x).1 (gc n y).1,ot KI [([],(0,[]))] (gc n x).2)
  | 4=>(ot KL (gc n x).1 (gc n y).1,(gc n x).1)
  | 5=>(ot KJ [([],(0,[]))] (gc n x).2,[([],(0,[]))])
  | _=>([([],(0,[]))],[([],(0,[]))])
def qW (f:L→L→List (List L)) (a b:iz):List (List L):=a.flatMap fun x=>b.flatMap fun y=>(f x.2 y.2).map fun r=>x.1++(y.1++r)
def CN (a b:L):List (List L):=[[d0 b (fU a)]]
def CM (a b:L):List (List L):=[[d0 (-1,[]) (d0 b (fU a))]]
def Lo (a b:L):List (List L):=[[d0 b (fU a),d0 a (fU b)]]
def Ln (a b:L):List (List L):=[[d0 (-1,[]) (d0 b (fU a))],[d0 (-1,[]) (d0 a (fU b))]]
def zM (a b:List (List L)):List (List L):=a.flatMap fun x=>b.map fun y=>x++y
def dh (n:Nat):X→List (List L)×List (List L)
 | .v _=>([[]],[])
 | .n _=>([],[[]])
 | .m _ _ _=>([],[[]])
 | .b op x y=>match op with
  | 0=>(zM (dh n x).1 (dh n y).1,(dh n x).2++(dh n y).2)
  | 1=>((dh n x).1++(dh n y).1,zM (dh n x).2 (dh n y).2)
  | 2=>((dh n x).2,(dh n x).1)
  | 3=>((dh n x).2++(dh n y).1,zM (dh n x).1 (dh n y).2)
  | 4=>(qW CN (gc n x).1 (gc n y).1,qW (fun a b=>CM b a) (gc n x).1 (gc n y).1)
  | 5=>(qW CM (gc n x).1 (gc n y).1,qW (fun a b=>CN b a) (gc n x).1 (gc n y).1)
  | 6=>(qW Lo (gc n x).1 (gc n y).1,qW Ln (gc n x).1 (gc n y).1)
  | 7=>(qW CN (gc n x).2 (gc n y).2,qW (fun a b=>CM b a) (gc n x).2 (gc n y).2)
  | 8=>(qW CM (gc n x).2 (gc n y).2,qW (fun a b=>CN b a) (gc n x).2 (gc n y).2)
  | _=>(qW Lo (gc n x).2 (gc n y).2,qW Ln (gc n x).2 (gc n y).2)
def vf (c:List Nat) (z:List Int) (i:Nat):Int:=if i<c.length then Int.ofNat (c.getD i 0)else z.getD (i-c.length) 0
def All (f:Nat→Int) (cs:List L):Prop:=∀l∈cs,0≤bF f l
def jd (f:Nat→Int) (a:iz) (t:Int):Prop:=∃x∈a,All f x.1∧bF f x.2=t
theorem jH {f:Nat→Int} {a b:List L} (h:All f a) (k:All f b):All f (a++b):=fun l hl=>(List.mem_append.mp hl).elim (h l) (k l)
theorem lh {f:Nat→Int}:All f []:=fun U h=>by cases h
theorem iu {f:Nat→Int} {l:L} (h:0≤bF f l):All f [l]:=fun U hm=>by rw[List.mem_singleton.mp hm];exact h
theorem cT {f:Nat→Int} {g:L→L→iz} {a b:iz} {s t u:Int} (ha:jd f a s) (hb:jd f b t) (h:∀x y,bF f x=s→bF f y=t→jd f (g x y) u):jd f (ot g a b) u:=by
 obtain⟨x,hx,cx,vx⟩:=ha;obtain⟨y,hy,cy,vy⟩:=hb;obtain⟨r,hr,cr,vr⟩:=h _ _ vx vy;exact⟨_,List.mem_flatMap.mpr ⟨x,hx,List.mem_flatMap.mpr ⟨y,hy,List.mem_map.mpr ⟨r,hr,rfl⟩⟩⟩,jH cx (jH cy cr),vr⟩
theorem gT {f:Nat→Int} {g:L→L→List (List L)} {a b:iz} {s t:Int} (ha:jd f a s) (hb:jd f b t) (h:∀x y,bF f x=s→bF f y=t→∃r∈g x y,All f r):∃r∈qW g a b,All f r:=by
 obtain⟨x,hx,cx,vx⟩:=ha;obtain⟨y,hy,cy,vy⟩:=hb;obtain⟨r,hr,cr⟩:=h _ _ vx vy;exact⟨_,List.mem_flatMap.mpr ⟨x,hx,List.mem_flatMap.mpr ⟨y,hy,List.mem_map.mpr ⟨r,hr,rfl⟩⟩⟩,jH cx (jH cy cr)⟩
theorem cO {f:Nat→Int} {l:L} {t:Int} (h:bF f l=t):jd f [([],l)] t:=⟨_,List.mem_singleton.mpr rfl,lh,h⟩
theorem y9 {f:Nat→Int} {x y:List L×L} {t:Int} (h:All f x.1) (e:bF f x.2=t):jd f [x,y] t:=⟨x,List.mem_cons_self,h,e⟩
theorem y8 {f:Nat→Int} {x y:List L×L} {t:Int} (h:All f y.1) (e:bF f y.2=t):jd f [x,y] t:=⟨y,List.mem_cons_of_mem _ List.mem_cons_self,h,e⟩
theorem nO (f:Nat→Int) (m:L):bF f (fU m)=- bF f m:=(j2 ..).trans (Int.neg_one_mul _)
theorem kL (f:Nat→Int) (l m:L):bF f (d0 l (fU m))=bF f l-bF f m:=(j3 ..).trans (congrArg (bF f l+·) (nO f m))
theorem xG (f:Nat→Int) (l:L):bF f (d0 (-1,[]) l)=bF f l-1:=(j3 ..).trans (Int.add_comm ..)
theorem zu (f:Nat→Int) (l m:L):bF f (d0 (-1,[]) (d0 l (fU m)))=bF f l-bF f m-1:=(xG ..).trans (congrArg (·-1) (kL ..))
theorem xF (f:Nat→Int):bF f (0,[])=0:=rfl
theorem oE {f:Nat→Int} {x y:L} {s t:Int} (hx:bF f x=s) (hy:bF f y=t) (h:t≤s):0≤bF f (d0 x (fU y)):=by rw[kL,hx,hy];exact nn h
theorem oD {f:Nat→Int} {x y:L} {s t:Int} (hx:bF f x=s) (hy:bF f y=t) (h:t<s):0≤bF f (d0 (-1,[]) (d0 x (fU y))):=by rw[zu,hx,hy];exact ns h
theorem qR {f:Nat→Int} {x y u v:L} {s t w:Int} (hx:bF f x=s) (hy:bF f y=t) (h1:t≤s→bF f u=w) (h2:s<t→bF f v=w):jd f [([d0 x (fU y)],u),([d0 (-1,[]) (d0 y (fU x))],v)] w:=
 (Int.lt_or_le s t).elim (fun q=>y8 (iu (oD hy hx q)) (h2 q)) fun q=>y9 (iu (oE hx hy q)) (h1 q)
theorem nP (c:List Nat) (z:List Int):∀x:X,jd (vf c z) (gc c.length x).1 (dG c z x).N∧jd (vf c z) (gc c.length x).2 (dG c z x).I
 | .v i=>by
  refine⟨cO ?_,cO ?_⟩
  ·show bF _ (0,bif Nat.blt i c.length then rC i else[])=Int.ofNat (c.getD i 0)
   cases h:Nat.blt i c.length
   ·have:c.length≤i:=Nat.le_of_not_lt fun q=>by rw[Nat.blt,Nat.ble_eq_true_of_le q] at h;cases h
    rw[List.getD_eq_getElem?_getD,List.getElem?_eq_none this];rfl
   ·have:i<c.length:=Nat.le_of_ble_eq_true h
    rw[cond_true,bF,mx,vf,if_pos this,Int.zero_add]
  ·have h1:¬c.length+i<c.length:=Nat.not_lt.mpr (Nat.le_add_right ..)
   show bF _ (0,rC (c.length+i))=z.getD i 0
   rw[bF,mx,vf,if_neg h1,Nat.add_sub_cancel_left,Int.zero_add]
 | .n k=>by
  exact⟨cO (Int.add_zero _),cO (Int.add_zero _)⟩
 | .m f k x=>by
  have ih:=nP c z x
  have e0:=cO (xF (vf c z))
  have h1:jd (vf c z) (gc c.length (.m f k x)).1 (Int.ofNat k*Int.ofNat (dG c z x).N):=cT (g:=zC k) e0 ih.1 fun U a U h=>cO ((j2 _ _ _).trans (congrArg (Int.ofNat k*·) h))
  have h2:jd (vf c z) (gc c.length (.m f k x)).2 (Int.ofNat k*(dG c z x).I):=cT (g:=zC k) e0 ih.2 fun U a U h=>cO ((j2 _ _ _).trans (congrArg (Int.ofNat k*·) h))
  cases f
  ·have e1:(Int.ofNat k*Int.ofNat (dG c z x).N)=(dG c z (.m false k x)).N:=(Int.mul_comm _ _).trans rfl
   have e2:Int.ofNat k*(dG c z x).I=(dG c z (.m false k x)).I:=(Int.mul_comm _ _).trans rfl
   exact⟨e1▸h1,e2▸h2⟩
  ·exact⟨h1,h2⟩
 | .b op x y=>by
  have hx:=nP c z x
  have hy:=nP c z y
  have e0:=cO (xF (vf c z))
  match op with
  | 0=>exact⟨cT (g:=zD) hx.1 hy.1 fun a b h k=>cO (t:=((dG c z x).N+(dG c z y).N:Nat)) (by rw[j3,h,k];rfl),cT (g:=zD) hx.2 hy.2 fun a b h k=>cO (t:=(dG c z x).I+(dG c z y).I) (by rw[j3,h,k])⟩
  | 1=>
   exact⟨cT (g:=KH) hx.1 hy.1 fun a b h k=>qR (w:=((dG c z x).N-(dG c z y).N:Nat)) h k (fun q=>by rw[kL,h,k];exact(Int.ofNat_sub (Int.ofNat_le.mp q)).symm) fun q=>(congrArg Int.ofNat (Nat.sub_eq_zero_of_le (Nat.le_of_lt (Int.ofNat_lt.mp q)))).symm,
    cT (g:=KN) hx.2 hy.2 fun a b h k=>cO (t:=(dG c z x).I-(dG c z y).I) (by rw[kL,h,k])⟩
  | 2=>exact⟨e0,e0⟩
  | 3=>
   exact⟨cT (g:=KM) hx.1 hy.1 fun a b h k=>qR (w:=(max (dG c z x).N (dG c z y).N:Nat)) h k (fun q=>h.trans (congrArg Int.ofNat (Nat.max_eq_left (Int.ofNat_le.mp q))).symm) fun q=>k.trans (congrArg Int.ofNat (Nat.max_eq_right (Nat.le_of_lt (Int.ofNat_lt.mp q)))).symm,
    cT (g:=KI) e0 hx.2 fun U a U h=>cO (t:=-(dG c z x).I) ((nO ..).trans (congrArg (- ·) h))⟩
  | 4=>
   exact⟨cT (g:=KL) hx.1 hy.1 fun a b h k=>qR (w:=(min (dG c z x).N (dG c z y).N:Nat)) h k (fun q=>k.trans (congrArg Int.ofNat (Nat.min_eq_right (Int.ofNat_le.mp q))).symm) fun q=>h.trans (congrArg Int.ofNat (Nat.min_eq_left (Nat.le_of_lt (Int.ofNat_lt.mp q)))).symm,hx.1⟩
  | 5=>
   refine⟨cT (g:=KJ) e0 hx.2 fun U a U h=>?_,e0⟩
   show jd _ _ (((dG c z x).I.toNat:Nat):Int)
   exact(Int.lt_or_le (dG c z x).I 0).elim
    (fun q=>y8 (iu (by rw[xG,nO,h];exact nn (Int.neg_pos_of_neg q))) (congrArg Int.ofNat (Int.toNat_of_nonpos (Int.le_of_lt q))).symm)
    fun q=>y9 (iu (by rw[h];exact q)) (h.trans (Int.toNat_of_nonneg q).symm)
  | 6=>exact⟨e0,e0⟩
  | 7=>exact⟨e0,e0⟩
  | 8=>exact⟨e0,e0⟩
  | _+9=>exact⟨e0,e0⟩
abbrev te (f:Nat→Int) (l:List (List L)):Prop:=∃r∈l,All f r
theorem nW {f:Nat→Int} {a b:List (List L)} (ha:te f a) (hb:te f b):te f (zM a b):=by
 obtain⟨x,hx,cx⟩:=ha;obtain⟨y,hy,cy⟩:=hb;exact⟨_,List.mem_flatMap.mpr ⟨x,hx,List.mem_map.mpr ⟨y,hy,rfl⟩⟩,jH cx cy⟩
theorem xV {f:Nat→Int} {a b:List (List L)} (h:te f a):te f (a++b):=h.elim fun r h=>⟨r,List.mem_append_left _ h.1,h.2⟩
theorem xR {f:Nat→Int} {a b:List (List L)} (h:te f b):te f (a++b):=h.elim fun r h=>⟨r,List.mem_append_right _ h.1,h.2⟩
theorem mv {f:Nat→Int} {l:L} (h:0≤bF f l):te f [[l]]:=⟨_,List.mem_singleton.mpr rfl,iu h⟩
theorem zA {f:Nat→Int} {l m:L} (h:0≤bF f l) (k:0≤bF f m):te f [[l,m]]:=⟨_,List.mem_singleton.mpr rfl,fun U h'=>(List.mem_cons.mp h').elim (·▸h) fun h'=>List.mem_singleton.mp h'▸k⟩
section
variable {f:Nat→Int} {a b:iz} {s t:Int} (ha:jd f a s) (hb:jd f b t)
include ha hb
theorem xU (h:s≤t):te f (qW CN a b):=gT ha hb fun x y hx hy=>mv (oE hy hx h)
theorem xT (h:s<t):te f (qW CM a b):=gT ha hb fun x y hx hy=>mv (oD hy hx h)
theorem y0 (h:t≤s):te f (qW (fun a b=>CN b a) a b):=gT ha hb fun x y hx hy=>mv (oE hx hy h)
theorem xW (h:t<s):te f (qW (fun a b=>CM b a) a b):=gT ha hb fun x y hx hy=>mv (oD hx hy h)
theorem y2 (h:s=t):te f (qW Lo a b):=gT ha hb fun x y hx hy=>zA (oE hy hx (Int.le_of_eq h)) (oE hx hy (Int.le_of_eq h.symm))
theorem xS (h:s≠t):te f (qW Ln a b):=gT ha hb fun x y hx hy=>(Int.lt_or_gt_of_ne h).elim
 (fun q=>⟨_,List.mem_cons_self,iu (oD hy hx q)⟩) fun q=>⟨_,List.mem_cons_of_mem _ List.mem_cons_self,iu (oD hx hy q)⟩
end
theorem fn (c:List Nat) (z:List Int):∀x:X,((dG c z x).P→te (vf c z) (dh c.length x).1)∧(¬(dG c z x).P→te (vf c z) (dh c.length x).2)
 | .v i=>⟨fun U=>⟨_,List.mem_singleton.mpr rfl,lh⟩,fun h=>(h trivial).elim⟩
 | .n k=>⟨fun h=>h.elim,fun U=>⟨_,List.mem_singleton.mpr rfl,lh⟩⟩
 | .m f k x=>⟨fun h=>by cases f<;>exact h.elim,fun U=>⟨_,List.mem_singleton.mpr rfl,lh⟩⟩
 | .b op x y=>by
  have hx:=nP c z x
  have hy:=nP c z y
  match op with
  | 0=>
   have ix:=fn c z x
   have iy:=fn c z y
   refine⟨fun(h:_∧_)=>nW (ix.1 h.1) (iy.1 h.2),fun(h:¬(_∧_))=>?_⟩;by_cases q:(dG c z x).P
   ·exact xR (iy.2 fun r=>h ⟨q,r⟩)
   ·exact xV (ix.2 q)
  | 1=>
   have ix:=fn c z x
   have iy:=fn c z y
   exact⟨fun(h:_∨_)=>h.elim (fun h=>xV (ix.1 h)) fun h=>xR (iy.1 h),fun(h:¬(_∨_))=>nW (ix.2 fun q=>h (.inl q)) (iy.2 fun q=>h (.inr q))⟩
  | 2=>
   have ix:=fn c z x
   exact⟨ix.2,fun(h:¬¬_)=>ix.1 (Classical.not_not.mp h)⟩
  | 3=>
   have ix:=fn c z x
   have iy:=fn c z y
   refine⟨fun(h:_→_)=>?_,fun(h:¬(_→_))=>?_⟩
   ·by_cases q:(dG c z x).P
    ·exact xR (iy.1 (h q))
    ·exact xV (ix.2 q)
   ·have:=Classical.not_imp.mp h
    exact nW (ix.1 this.1) (iy.2 this.2)
  | 4=>exact⟨fun h=>xU hx.1 hy.1 (Int.ofNat_le.mpr h),fun h=>xW hx.1 hy.1 (Int.ofNat_lt.mpr (Nat.lt_of_not_le h))⟩
  | 5=>exact⟨fun h=>xT hx.1 hy.1 (Int.ofNat_lt.mpr h),fun h=>y0 hx.1 hy.1 (Int.ofNat_le.mpr (Nat.le_of_not_lt h))⟩
  | 6=>exact⟨fun h=>y2 hx.1 hy.1 (congrArg Int.ofNat h),fun h=>xS hx.1 hy.1 fun q=>h (Int.ofNat.inj q)⟩
  | 7=>exact⟨fun h=>xU hx.2 hy.2 h,fun h=>xW hx.2 hy.2 (Int.lt_of_not_ge h)⟩
  | 8=>exact⟨fun h=>xT hx.2 hy.2 h,fun h=>y0 hx.2 hy.2 (Int.le_of_not_gt h)⟩
  | _+9=>exact⟨fun h=>y2 hx.2 hy.2 h,fun h=>xS hx.2 hy.2 h⟩
def rd:Nat→Nat→List X→List X
 | 0,_,st=>st
 | f+1,c,st=>bif c==0 then st else
  let d:=c%64-1
  let r:=c/64
  bif Nat.blt d 10 then(match st with|y::x::st=>rd f r (.b d x y::st)|st=>st)
  else bif Nat.blt d 12 then(match st with|.n k::x::st=>rd f r (.m (d==10) k x::st)|st=>st)
  else bif Nat.blt d 32 then rd f r (.v (d-12)::st)
  else bif Nat.blt d 60 then rd f r (.n (d-32)::st)
  else bif d==60 then rd f (r/16777216) (.n (r%16777216)::st)
  else rd f (r/4722366482869645213696) (.n (r%4722366482869645213696)::st)
def rf (c:Nat):X:=(rd 200 c []).headD (.v 0)
def Cl:Nat→List L
 | 0=>[]
 | i+1=>(0,rC i)::Cl i
def KP (n m k:Nat):Bool:=(dh n (rf k)).2.all fun r=>fm (n+m) (Cl n++r)
theorem uK (c:List Nat) (z:List Int):∀n,n≤c.length→All (vf c z) (Cl n)
 | 0,_=>lh
 | n+1,hn=>fun l hl=>(List.mem_cons.mp hl).elim (fun e=>by
  subst e;rw[bF,mx,vf,if_pos (show n<c.length from hn),Int.zero_add]
  exact Int.natCast_nonneg _) (uK c z n (Nat.le_of_succ_le hn) l)
theorem ar (c:List Nat) (z:List Int) (k:Nat) (h:KP c.length z.length k=true):(dG c z (rf k)).P:=Classical.byContradiction fun n=>by
 obtain⟨r,hr,ha⟩:=(fn c z (rf k)).2 n;exact BE _ _ _ (List.all_eq_true.mp h r hr) (jH (uK c z _ (Nat.le_refl _)) ha)
theorem arQ (c:List Nat) (z:List Int) (k:Nat) {G:Prop} (h:KP c.length z.length k=true:=by kernel_rfl) (e:(dG c z (rf k)).P=G:=by kernel_rfl):G:=e▸ar c z k h
end FM
section
open FM
variable {a b c d e f g h i j k l m n:Nat} {x y z u v w s t:Int}
theorem hU:0≤(↑a:Int):=arQ [a] [] 135664481
theorem qD:a-1≠0→1≤a-1:=arQ [a] [] 0x414288d88384784288d
theorem rt:a<b→b≤1000→(↑a:Int)<9223372036854775808:=arQ [a,b] [] 0x4109008000000000000000f8584d14000fa3d38638d
theorem vV:a+1+b=a+(b+1):=arQ [a,b] [] 0x704188e34138188d
theorem uI:a<c→b=c→a<b:=arQ [a,c,b] [] 0x41063cd1ce3c638d
theorem wC:a+d≤c→b<d→a+b<c:=arQ [a,d,c,b] [] 0x41063c140d18e4053c138d
theorem DG:a+1<b→a<b:=arQ [a,b] [] 0x418e34638188d
theorem xn:x<16→x<9223372036854775808:=arQ [] [x] 0x424020000000000000003e349c4d
theorem yt:a+1≤a+2:=arQ [a] [] 345261742221
theorem yr:a<b→b≤3→(↑a:Int)<9223372036854775808:=arQ [a,b] [] 0x4109008000000000000000f8584d16438638d
theorem pf:a≤b→b-(a+1)=c→b-a=c+1→a+1≤b:=arQ [a,b,c] [] 0x410414e0623470623c234e1cf08188d38538d
theorem pe:c=d∧a≤e+1∧f≤g+1→e≤1000+b→a≤1000+(b+1):=arQ [c,d,a,e,f,g,b] [] 0x41050418930003e8f4f1414c000fa3d4010450624911418903c738d
theorem pd:c=d∧e≤f+1∧a≤g+1→g≤b→a≤b+1:=arQ [c,d,e,f,a,g,b] [] 0x41050624d11534810450624911418903c738d
theorem tC:a<c→c<b→a<b:=arQ [a,c,b] [] 0x41063cd18f38638d
theorem sf:a≠0→a≠1→2≤a:=arQ [a] [] 0x41053630e11e234384784d
theorem se:a≤c-1→c-1<b→a≤b:=arQ [a,c,b] [] 0x41053cd18f0a23850a238d
theorem sc:2≤a→a-1≠1→b≤a-1→¬c-1-b>0→2≤a-1:=arQ [a,b,c] [] 0x41041050a23630e118238288f8450a234e0e11e20a2345363
theorem s8:a<c→c<b+1→a<b:=arQ [a,c,b] [] 0x41063cd18188f38638d
theorem s7:a+1≤a+15:=arQ [a] [] 345479846029
theorem tB:a+(c+1)≤b→a<b:=arQ [a,c,b] [] 0x418f3453c106238d
theorem tA:a+(b+1)=a+1+b:=arQ [a,b] [] 0x704e06234106238d
theorem vW:a<b→(↑a:Int)<(↑b:Int):=arQ [a,b] [] 0x424584e16134638d
theorem xu:b=a→b≤1000000→a≤16777216:=arQ [b,a] [] 0x4105000000000001000000f8e143d0903d34738d
theorem xt:2≤a→1≤a:=arQ [a] [] 280473654115
theorem xr:a<64→a≤100000:=arQ [a] [] 0x414061a83d346000040f4d
theorem xq:0<x→x≠0:=arQ [] [x] 0x40e12a1349361
theorem xp:(↑a:Int)<(↑b:Int)→a<b:=arQ [a,b] [] 0x418e34916138584d
theorem xo:x<16→a=16→x<(↑a:Int):=arQ [a] [x] 0x410916134d1f1349c4d
theorem zo:a+b=c→b<c→a-1<a:=arQ [a,b,c] [] 0x410634288d18f3873c138d
theorem zn:a+b=c→b<c→a-1+(b+1)=c:=arQ [a,b,c] [] 0x41073c106238288d18f3873c138d
theorem zm:a+50<9900→a<9900:=arQ [a] [] 0x418009ab3d3460026acf41000032f4d
theorem zl:a+(b+1)≤c→a+1+b≤c:=arQ [a,b,c] [] 0x414f04e0623453c106238d
theorem zk:1≤a→a≤b→a-1<b:=arQ [a,b] [] 0x410638288d14e345362
theorem zj:1≤a→a-1<a:=arQ [a] [] 0x418d0a2345362
theorem zi:a-1<b→0+(a-1)≤b:=arQ [a,b] [] 0x414e04288d84638288d
theorem zh:2≤a→a-1-1<a-1:=arQ [a] [] 0x418288d0a20a2345363
theorem zg:1≤a→2≤b→a+b+c+1<d+e→a-1+(b-1)+c+1<d+e:=arQ [a,b,c,d,e] [] 0x410418145006204f04288e0a23460514018813c138d14e8c5362
theorem zf:1≤d→a+d≤c→b<d→a+b-1<c:=arQ [d,a,c,b] [] 0x410418f0a205038635014f04d385362
theorem ze:a≤b→max a b≤b:=arQ [a,b] [] 0x414e10e34538d
theorem zd:a>1→a-2<a:=arQ [a] [] 0x418d0a3346362
theorem zc:b=a→0+a≤b:=arQ [b,a] [] 0x414d04e84738d
theorem zb:Int.toNat ((↑(a+1):Int)-1)=a:=arQ [a] [] 0x734684288584188d
theorem za:0≤(↑(a+1):Int)-1:=arQ [a] [] 0x80a2161062361
theorem z9:a+b+1=a+(b+1):=arQ [a,b] [] 0x704188e34188138d
theorem z8:a+1≤b→a≤b:=arQ [a,b] [] 0x414e34538188d
theorem vU:a<0+b→a<b:=arQ [a,b] [] 0x418e34604e84d
theorem z7:a+2≤a+11:=arQ [a] [] 345412737229
theorem z6:a<b→a=b→False:=arQ [a,b] [] 0x41211ce34638d
theorem z5:a=b→b≤3→a≤1000000:=arQ [a,b] [] 0x41050f4240f4d16438738d
theorem z4:a≤3→(↑a:Int)<1099511627776:=arQ [a] [] 0x424000000040000000003e16134590d
theorem z0:-1099511627776<(↑a:Int):=arQ [a] [] 0x916134484000000040000000003e
theorem yW:a≤3→(↑a:Int)<1000:=arQ [a] [] 0x424000fa3d16134590d
theorem yV:a<b→b<c→c≤3→a<3:=arQ [a,b,c] [] 0x41041a434590f18f38638d
theorem yU:a≤11→a<12:=arQ [a] [] 282078763789
theorem Cj:c=a→c=d→d=b→a=b:=arQ [c,a,d,b] [] 0x41041d038740f1cf34738d
theorem Ci:a+50<9900→a+1+10<9900:=arQ [a] [] 0x418009ab3d06b0623460026acf41000032f4d
theorem Ch:a≤0+b→a<b+1:=arQ [a,b] [] 0x418188e34504e84d
theorem Cg:(↑(a+1):Int)≠0:=arQ [a] [] 990283185789069
theorem Cf:a≤d+c→d≤b+1→a≤b+(c+1):=arQ [a,d,c,b] [] 0x410504188f40d14189038504f38d
theorem Ce:1≤a→-1099511627776<(↑a:Int):=arQ [a] [] 0x424584d121000000010000000000f85362
theorem Cd:1≤a→0<(↑a:Int):=arQ [a] [] 0x424584d845362
theorem DF:a<16→b=16→a<b:=arQ [a,b] [] 0x410638d1f1386c4d
theorem Cc:x+(↑a:Int)+4+(↑b:Int)+1=x+(↑a:Int)+4+((↑b:Int)+1):=arQ [a,b] [x] 0xa04188584e06504584d34188116138194116134d
theorem Cb:x+(↑a:Int)+4+(↑b:Int)=x+(↑(a+(4+b)):Int):=arQ [a,b] [x] 0xa04584104e94d34116138194116134d
theorem Ca:a+12≤a+15:=arQ [a] [] 345479846733
theorem C9:a<0+b→b≤1000→(↑a:Int)<9223372036854775808:=arQ [a,b] [] 0x4109008000000000000000f8584d14000fa3d38604e84d
theorem C8:a+1≤a+4:=arQ [a] [] 345295296653
theorem C7:a≤b→b≤c→c<d→d≤1000→a≤1000000:=arQ [a,b,c,d] [] 0x41041050f4240f4d14000fa3d40640f14f38538d
theorem DE:a≥b→c+a=b→a=b:=arQ [b,a,c] [] 0x410734e1cd04e3c538d
theorem DD:b=a→b≤1000000→(↑a:Int)<9223372036854775808:=arQ [b,a] [] 0x4109008000000000000000f8584e143d0903d34738d
theorem DC:c+d≤1000000→c=a→d=b→¬a+b>16777216:=arQ [c,d,a,b] [] 0x41040e118140f000000000001000000f8740e1cf3450f4240f4138d
theorem DB:b+c≤1000000→b=a→a≤16777216:=arQ [b,c,a] [] 0x4105000000000001000000f8f1cf3450f4240f4138d
theorem DA:c+d≤1000000→c=a→d=b→a+b≤16777216+1:=arQ [c,d,a,b] [] 0x410414188000000000004000003e0503c740e1cf3450f4240f4138d
theorem Dz:a+4*(b+1)≤980→a+1+4*b≤980:=arQ [a,b] [] 0x414000f53d04b94e0623450003d4f412e506238d
theorem Dy:a+(b+1)<9900→a<9900:=arQ [a,b] [] 0x418009ab3d3460026acf4106238d
theorem Dx:a+(b+1)<9900→a+1+b<9900:=arQ [a,b] [] 0x418009ab3d04e0623460026acf4106238d
theorem Dw:c=a→c≠d→d=b→a≠b:=arQ [c,a,d,b] [] 0x41040e11d038740f0e11cf34738d
theorem Dv:a<c→c=b→a<b:=arQ [a,c,b] [] 0x41063cd1cf38638d
theorem Du:1≤a→0<a:=arQ [a] [] 281547133794
theorem Dt:max 0 (a+b)=a+b:=arQ [a,b] [] 0x704e34404e361
theorem Ds:a+1≠b→a<b→a+1<b:=arQ [a,b] [] 0x410638188d18e34384738188d
theorem Dr:a+1+1≠b→a+1<b→a+1+1<b:=arQ [a,b] [] 0x410638188188d18e06234384738188188d
theorem Dq:a+1≤b+d→d+1≤c→a+1≤b+1+c:=arQ [a,b,d,c] [] 0x410505006238188d1500623c504f38188d
theorem Dp:b≤a→a=b+(a-b):=arQ [b,a] [] 0x41c108d38d38538d
theorem Do:2≤a→a≤b→a-1<b:=arQ [a,b] [] 0x410638288d14e345363
theorem Dn:2≤a→a-1≠1→2≤a-1:=arQ [a] [] 0x41050a23630e11e20a2345363
theorem Dm:a≤b→0+a≤b:=arQ [a,b] [] 0x414e04d84538d
theorem Dl:a≠0→1≤a:=arQ [a] [] 0x414d88384784d
theorem Dk:1≤b→a≤c→c≤b→a-1<b:=arQ [b,a,c] [] 0x410418d0a238534f14f385362
theorem Dj:a≤max a b→c+1≤a→d>1→1≤max a b:=arQ [a,b,c,d] [] 0x410414438d88642214d0623c510e34d
theorem Di:b+1≤c→c≤a→d>1→1≤a:=arQ [b,c,a,d] [] 0x410414f88642214f38538188d
theorem Dh:1≤d→a+e≤c→b<e→f+1≤b→¬f>1→a+b-1<c:=arQ [d,a,e,c,b,f] [] 0x41041041900a20513838464a21510624863d115004f385362
theorem Dg:1≤c→a≤max a b→c+1≤a→¬d>1→1≤max a b:=arQ [c,a,b,d] [] 0x410410510f3a20e119088538188d1443ce385362
theorem Df:a+d≤c→1≤e→¬f>1→e+1≤g→g≤b→b<d→a+b-1<c:=arQ [a,d,c,e,f,g,b] [] 0x41041041063c28814cd18e4c54d21520624038464621508853c138d
theorem De:1≤b→b+1≤c→c≤a→¬d>1→1≤a:=arQ [b,c,a,d] [] 0x41041053e20e11908853ce14e062345362
theorem Dd:a+(b+1)=a+b+1:=arQ [a,b] [] 0x706204e34106238d
theorem Dc:a>1→a-2+1<a:=arQ [a] [] 0x418d0620a3346362
theorem Db:a=b→¬b<64→¬a<2:=arQ [a,b] [] 0x41038468cd0e118000103d38738d
theorem Da:0<x→0≤x:=arQ [] [x] 283694633825
theorem D9:a=c+1→c≤b→a≤b+1:=arQ [a,c,b] [] 0x41050623cd14f38706238d
theorem BB:¬a<0:=arQ [a] [] 59009101
theorem BA:(↑a:Int)+1+x≤(↑b:Int)→Int.toNat ((↑a:Int)+1+x)≤b:=arQ [a,b] [x] 0x414e1a104d06216134816138134188584d
theorem Bz:a≤1+b+c→b≤60→c≤1000→a≤100000:=arQ [a,b,c] [] 0x410414061a83d3450003e8f4f140000f3d38504f04e88d
theorem By:a<1000→(↑(a+1):Int)-1<9223372036854775808:=arQ [a] [] 0x424020000000000000003e0a21610623460003e8f4d
theorem Bx:a=b+(0+1+1+1+1)+c→b≤500→c≤d→d≤100→a≤1000000:=arQ [a,b,c,d] [] 0x41041050f4240f4d14000193d40540f140007d3d38704f0418818818818a138d
theorem Bw:b+1≤a→a-b=a-(b+1)+1:=arQ [b,a] [] 0x41c188206234e08d38538188d
theorem Bv:b<a→b≤a→a-b=a-(b+1)+1:=arQ [b,a] [] 0x410706208188d38234e14e34638d
theorem Bu:a+1+1≤b∧b≤a+1+c→a+1≤b∧b≤a+(c+1):=arQ [a,b,c] [] 0x404504188f34e14e0623411413c188d38538188188d
theorem Br:a=c+1→c+1+1≤b→a<b:=arQ [a,c,b] [] 0x41063cd14f06206238706238d
theorem Bq:a≤b+1→b≤1000→a≤2000:=arQ [a,b] [] 0x41050007d0f4d14000fa3d38506238d
theorem Bp:b+c≤d→a+b+c≤a+d:=arQ [b,c,d,a] [] 0x41413d004e04d4053c138d
theorem Bo:a<a→False:=arQ [a] [] 75785037
theorem Bn:a+1≤b→b≤1000→a≤999999:=arQ [a,b] [] 0x41050f423ff4d14000fa3d38538188d
theorem Bm:a+1≤a+11:=arQ [a] [] 345412737165
theorem Bl:a<b→b<3→a<3:=arQ [a,b] [] 0x410690d1a438638d
theorem Bk:(↑a:Int)<3→1+a≤3:=arQ [a] [] 0x416404d88990584d
theorem Bj:a≤b→b<c→c≤3→a≤100000:=arQ [a,b,c] [] 0x410414061a83d34590f18f38538d
theorem Bi:a=0→(↑a:Int)=0:=arQ [a] [] 0x42a116134784d
theorem Bh:¬a=0→(↑a:Int)≠0:=arQ [a] [] 0x40e12a116134384784d
theorem Bg:a<a+1+b:=arQ [a,b] [] 413625885517
theorem Bf:(↑b:Int)<(↑c:Int)-(↑a:Int)-1→a+1+b<c:=arQ [b,c,a] [] 0x418e04d0623c90a208584f16138584d
theorem Be:a≤3→(↑a:Int)-(↑b:Int)-1<1000:=arQ [a,b] [] 0x424000fa3d0a208584e16134590d
theorem Bd:(↑a:Int)<(↑b:Int)→b≤3→(↑a:Int)<9223372036854775808:=arQ [a,b] [] 0x4109008000000000000000f8584d16438916138584d
theorem Bc:a<b→b≤3→a≤10000:=arQ [a,b] [] 0x4105002710f4d16438638d
theorem Bb:a<b→b≤3→a≤1000000:=arQ [a,b] [] 0x41050f4240f4d16438638d
theorem Ba:a+1≤b→a<b:=arQ [a,b] [] 0x418e34538188d
theorem B9:a=b→b≤100→a≤999996:=arQ [a,b] [] 0x41050f423cf4d14000193d38738d
theorem B8:b<c→0≤(↑a:Int):=arQ [b,c,a] [] 0x420584f84638d
theorem AW:a≤b+1→b=c+4+d→c≤100→d<e→e≤2→a≤10000:=arQ [a,b,c,d,e] [] 0x410410414009c43d3458d1191405000064f4f1c140194f38506238d
theorem AV:b<d→c<b→d≤3→4*a+3-b<4*a+3-c:=arQ [b,d,c,a] [] 0x41041823c190b95008d0642e540590e18d3c638d
theorem AU:a≤d→b≤c→a+b≤c+d:=arQ [a,d,b,c] [] 0x410504e4013cd1503c538d
theorem AT:a≤b→b≤c→c<6000→a≤1000000:=arQ [a,b,c] [] 0x4104143d0903d346001770f4f14f38538d
theorem AS:a≤a+b+c:=arQ [a,b,c] [] 344923104077
theorem AR:a+b+c-a=b+c:=arQ [a,b,c] [] 0x704f3823413c138d
theorem AP:a-d≤c+1→b<a→d<b→a-b≤c:=arQ [a,d,c,b] [] 0x410414f09034640e18d4050623c238d
theorem AO:1+a=a+1:=arQ [a] [] 482683917154
theorem AN:a+1+b+1=a+(b+1)+1:=arQ [a,b] [] 0x706204188e34188138188d
theorem AM:a<b→(↑a:Int)≤(↑b:Int):=arQ [a,b] [] 0x420584e16134638d
theorem AK:4+a+3=7+a:=arQ [a] [] 0x704da01901365
theorem AJ:x+(↑a:Int)+1+1=x+(↑a:Int)+2:=arQ [a] [x] 0xa06304584d34188188116134d
theorem AI:x+(↑a:Int)+2+1=x+(↑a:Int)+3:=arQ [a] [x] 0xa06404584d3418818c116134d
theorem AH:x+(↑a:Int)+3+1=x+(↑a:Int)+4:=arQ [a] [x] 0xa06504584d34188190116134d
theorem AG:x+(↑a:Int)+1=x+(↑(a+1):Int):=arQ [a] [x] 0xa04584188d34188116134d
theorem AF:x+(↑a:Int)+2=x+(↑(a+2):Int):=arQ [a] [x] 0xa0458418cd3418c116134d
theorem AE:x+(↑a:Int)+3=x+(↑(a+3):Int):=arQ [a] [x] 0xa04584190d34190116134d
theorem AD:4+a-4=a:=arQ [a] [] 495038239589
theorem AC:x+(↑a:Int)+4+(↑b:Int)+1+((↑c:Int)-(↑(a+(4+b)):Int)-1)=x+(↑c:Int):=arQ [a,b,c] [x] 0xa04584f3410a208584104e94d1613c188116138194116134d
theorem AB:4≤4+a+b:=arQ [a,b] [] 344906324325
theorem AA:a≤4+a+b-4:=arQ [a,b] [] 0x50a504e04d94d
theorem Az:4+a+b-4-a=b:=arQ [a,b] [] 0x7382342941381365
theorem Ay:x+(↑a:Int)+4+(↑b:Int)+1=x+(↑a:Int)+5+(↑b:Int):=arQ [a,b] [x] 0xa04584e06604584d34188116138194116134d
theorem Ax:x+(↑a:Int)+5+(↑b:Int)+1=x+(↑a:Int)+6+(↑b:Int):=arQ [a,b] [x] 0xa04584e06704584d34188116138198116134d
theorem Aw:x+(↑a:Int)+4+(↑b:Int)=x+(↑(a+(4+b+0)):Int):=arQ [a,b] [x] 0xa04584106104e94d34116138194116134d
theorem Av:x+(↑a:Int)+5+(↑b:Int)=x+(↑(a+(4+b+1)):Int):=arQ [a,b] [x] 0xa04584106204e94d34116138198116134d
theorem Au:x+(↑a:Int)+6+(↑b:Int)=x+(↑(a+(4+b+2)):Int):=arQ [a,b] [x] 0xa04584106304e94d3411613819c116134d
theorem As:a+5≤a+7:=arQ [a] [] 345345628557
theorem Ar:a≤2→a<64:=arQ [a] [] 0x418000103d3458cd
theorem Aq:a+3≤a+15:=arQ [a] [] 345479846157
theorem Ap:x≤100→x≤1000:=arQ [] [x] 0x420000fa3d348000064f4d
theorem Ao:a≤9→a<64:=arQ [a] [] 0x418000103d345a8d
theorem xw:a≤b→b≤1000→(↑a:Int)<9223372036854775808:=arQ [a,b] [] 0x4109008000000000000000f8584d14000fa3d38538d
theorem An:a=b→b≤1000→a≤1000:=arQ [a,b] [] 0x41050003e8f4d14000fa3d38738d
theorem Am:0+1≤a+1∧a+1≤0+c→b=c→a<b:=arQ [a,c,b] [] 0x41063cd1ce3c11413a10623450623418a1
theorem Al:0+1≤a+1∧a+1≤0+b→b≤1000→(↑(a+1):Int)-1<9223372036854775808:=arQ [a,b] [] 0x4109008000000000000000f8288584188d14000fa3d3811413a10623450623418a1
theorem Ku:0+(↑a:Int)*1=(↑a:Int):=arQ [a] [] 0xa161341322161361
theorem Kt:0<x→x-0=(↑(Int.toNat x):Int):=arQ [] [x] 0x428584684d0a1349361
theorem Ks:¬0<x→0=(↑(Int.toNat x):Int):=arQ [] [x] 0x428584684d843849361
theorem Kr:b+1=a→b≤100000→a≤16777216:=arQ [b,a] [] 0x4105000000000001000000f8e14061a83d34738188d
theorem Kq:b+1=a→0<(↑a:Int):=arQ [b,a] [] 0x424584e84738188d
theorem Kp:a+40*(b+1)≤9800→a+1+40*b≤9800:=arQ [a,b] [] 0x414009923d04b000028f4e062345002648f412c0000a3d06238d
theorem Ko:a=b→b≤c→c<d→d≤100000→e+c=d→a≤16777216:=arQ [a,b,c,d,e] [] 0x410410414000000000004000003e3474013d114061a83d40640f14f38738d
theorem Kn:a=c→c=b→a=b:=arQ [a,c,b] [] 0x41073cd1cf38738d
theorem Km:a<c→b=d→c=d→a<b:=arQ [a,c,b,d] [] 0x410418f34740e1d03c638d
theorem Kl:a+40*b≤9800→a+50<9900:=arQ [a,b] [] 0x418009ab3d040000cbd345002648f412c0000a3d38d
theorem Kk:a<c→d=b→d=c→a<b:=arQ [a,c,d,b] [] 0x410419034738f1d03c638d
theorem Kj:c+d≤1000000→c=a→d=b→a+b≤16777216:=arQ [c,d,a,b] [] 0x410414000000000004000003e0503c740e1cf3450f4240f4138d
theorem Ki:a<b→b≤1000000→(↑a:Int)<9223372036854775808-1:=arQ [a,b] [] 0x41090a2008000000000000000f8584d143d0903d38638d
theorem Kh:0≤x→x<1152921504606846976→-9223372036854775808≤x∧x<9223372036854775808:=arQ [] [x] 0x410124020000000000000003e34834484020000000000000003e24004000000000000003e348361
theorem Kg:0+a≤a:=arQ [a] [] 87298913
theorem Kf:¬a≥b-c→a<b-c:=arQ [b,c,a] [] 0x418238d3c38453c238d
theorem Ke:a≤b+c→a+min 0 1≤b+c:=arQ [a,b,c] [] 0x41413ce0458a134504f38d
theorem Kd:a+min d 1≤b+c→a+1≤b+(c+1):=arQ [a,d,b,c] [] 0x414106240f0623450503c116238d
theorem Kc:a+min b 1≤c+d→a+min (b+1) 1≤c+(d+1):=arQ [a,b,c,d] [] 0x414106240f04588188e3450503c116238d
theorem Kb:a+min d 1≤b+c→a+1≤b+1+c:=arQ [a,d,b,c] [] 0x414140188f0623450503c116238d
theorem Ka:a+min b 1≤c+d→a+min (b+1) 1≤c+1+d:=arQ [a,b,c,d] [] 0x414140188f04588188e3450503c116238d
theorem K9:a+1<b→a+(b-a)≤b:=arQ [a,b] [] 0x414e04234e34638188d
theorem K8:b+1<a→0<a-b:=arQ [b,a] [] 0x418234e84638188d
theorem K7:a+1≠b→a<b→a+1+(b-(a+1))≤b:=arQ [a,b] [] 0x410538108188d38188d18e34384738188d
theorem K6:b+1≠a→b<a→0<a-(b+1):=arQ [b,a] [] 0x410608188d3a118e34384738188d
theorem K5:1≤a→a-1+1=a:=arQ [a] [] 0x41cd0620a2345362
theorem K4:1≤a→a≠1→2≤a:=arQ [a] [] 0x41053630e11e2345362
theorem K3:a-1<a→a-1+b+0<a+b:=arQ [a,b] [] 0x418138d06104e0a234634288d
theorem K1:a+b+c<d+e→a+b+c+min 0 1<d+e:=arQ [a,b,c,d,e] [] 0x41814500458a104f04e3460514013c138d
theorem K0:1≤a→a+b+c+min f 1<d+e→a-1+b+c+1<d+e:=arQ [a,b,c,f,d,e] [] 0x41060524418813c138288d18149104589004f04e345362
theorem JW:1≤a→a+b+c+min d 1<e+f→a-1+b+c+min (d+1) 1<e+f:=arQ [a,b,c,d,e,f] [] 0x41060524411620624013c138288d18149104589004f04e345362
theorem JV:2≤b→a+b+c+min f 1<d+e→a+(b-1)+c+1<d+e:=arQ [b,a,c,f,d,e] [] 0x41060524418813c10a234e18149104589004f04d385363
theorem JU:2≤b→a+b+c+min d 1<e+f→a+(b-1)+c+min (d+1) 1<e+f:=arQ [b,a,c,d,e,f] [] 0x41060524411620624013c10a234e18149104589004f04d385363
theorem JT:a+b+c+1<d+e→a+b+(c+1)<d+e:=arQ [a,b,c,d,e] [] 0x418145004188f04e3460514018813c138d
theorem JS:1≤a→1≤max 1 a:=arQ [a] [] 0x4144362885362
theorem JR:1≤a→max 1 a≤a:=arQ [a] [] 0x414d10d885362
theorem JP:1≤b→a+d≤c→b<d→a+b-1<c:=arQ [b,a,d,c] [] 0x41041900a204d3863cd15004f385362
theorem JN:1≤c→a+c≤b→a<b:=arQ [c,a,b] [] 0x41063ce14f04d385362
theorem JM:1≤b→a+d≤c→b≠d→b≤d→a+b-1<c:=arQ [b,a,d,c] [] 0x410410640288134e14f3438473cd15004f385362
theorem JL:1≤b→1≤c→c≠b→c≤b→¬a>1→max (a+1) b≤b:=arQ [b,c,a] [] 0x410410414d10d0623c38463e214d38384734e14e885362
theorem JK:a+c≤b→a≤b:=arQ [a,c,b] [] 0x414f3453c138d
theorem JJ:a+b+(c+1)≤d→a+(b+1)+c≤d:=arQ [a,b,c,d] [] 0x415004f04188e3454010623c138d
theorem JI:a+b+(d+1)≤c→a+b<c:=arQ [a,b,d,c] [] 0x419004e3454010623c138d
theorem JH:a+b<a+(b+1)+c:=arQ [a,b,c] [] 0x604f04188e34138d
theorem JG:a+(b+1)+c=a+b+(c+1):=arQ [a,b,c] [] 0x704188f04e3413c106238d
theorem JF:1≤a→1≤a+b:=arQ [a,b] [] 0x414138d885362
theorem JE:a=c+(d+1)→b=c+(d+1+1)→c=e→a+1=b:=arQ [a,c,d,b,e] [] 0x41041d006234744e1c10620623ce40704188f38d
theorem JD:1≤d→a+b+d≤e→c=f→e≤f→a+b<c:=arQ [d,a,b,e,c,f] [] 0x41041064413ce15240749115004d04f385362
theorem JC:e≤f→1≤c→1≤g→a+c+g≤e→d=f→a+c<d→c-b≠0→a+b+(c-b)-1<d:=arQ [e,f,c,g,a,d,b] [] 0x41041041041920a20424cf0534438478424cf19204f44739214d05004f44542214f88538d
theorem JB:a+b+c≤e→d=f→e≤f→a+b+c≤d:=arQ [a,b,c,e,d,f] [] 0x410415104f04e3454901d24454013c138d
theorem JA:a+b<d→c≠0→d=e→1≤min (a+b+c) d-(a+b):=arQ [a,b,d,c,e] [] 0x410414204e3453c140138d88744f0e11e14063c138d
theorem Jz:b≤c→a+b≤a+c:=arQ [b,c,a] [] 0x414138f04d3c538d
theorem Jy:a+b+e≤f→c≤e→d=g→f≤g→a+b+c≤d:=arQ [a,b,e,f,c,d,g] [] 0x410410548144138d1534074d214f4454013c138d
theorem Jx:b=c→¬a≥b→a+(b-a)≤c:=arQ [b,c,a] [] 0x410538108f34f0e114f34738d
theorem Jw:¬b≥a→1≤a-b:=arQ [a,b] [] 0x414238d88384538d
theorem Jv:1≤d→d<c→d≤a-b→¬b≥a→1≤min (a-b) c:=arQ [d,c,a,b] [] 0x410410514e0903e20e11503c50903cd18e345362
theorem Ju:1≤e→b=d→e≤b-a→a+min (b-a) c≤d:=arQ [e,b,d,a,c] [] 0x410414f04544240e40509038d1cf385362
theorem Jt:1≤b→b≤d-a→d=c→a+b≤c:=arQ [b,d,a,c] [] 0x410415004d3c740e1423ce345362
theorem Js:¬a≤1→a-2-1+1<a:=arQ [a] [] 0x418d0620a20a334384588d
theorem Jr:¬a≤1→a-2+1<a:=arQ [a] [] 0x418d0620a334384588d
theorem Jq:0<x→¬x=0:=arQ [] [x] 0x40e12a1349361
theorem Jp:a≤0→a=0:=arQ [a] [] 282951178317
theorem Jo:a≤b+1→c<a→a-1≤b:=arQ [a,b,c] [] 0x410538288d18d3c506238d
theorem Jn:a+1=b→a=b-1:=arQ [a,b] [] 0x41c288e34738188d
theorem Jm:a=c→c≤b→a≤b:=arQ [a,c,b] [] 0x41053cd14f38738d
theorem Jl:a≤b→b-a=0→a=b:=arQ [a,b] [] 0x410738d1e108d38538d
theorem Jk:a≤b→b-a=c+1→a<b:=arQ [a,b,c] [] 0x410638d1c188f08d38538d
theorem Jj:a<c→a≤c→b=c→c+1<4096→min a b+1<4096:=arQ [a,c,b] [] 0x4104106001000f418853cd18004003d06238738f14e34638d
theorem Ji:a-b=c+1→b<a→b≤a→a-(b+1)=c:=arQ [a,b,c] [] 0x41041cf08188e34534e18d3870623c238d
theorem Jh:a=b→b+1<4096→a+1<4096:=arQ [a,b] [] 0x4106001000f4188d18004003d06238738d
theorem Jg:a-0=a-0:=arQ [a] [] 483740887117
theorem Jf:a≤1→¬a>1:=arQ [a] [] 0x40e118d88588d
theorem Je:a<b→b≤1→a=0:=arQ [a,b] [] 0x410784d16238638d
theorem Jd:a<1→a≤b:=arQ [a,b] [] 280484931725
theorem Jb:a≤1→a≥1→a=1:=arQ [a] [] 0x410788d14d88588d
theorem Ja:a=1→¬a=0:=arQ [a] [] 0x40e11e134788d
theorem J9:a=b→b=1→a=1:=arQ [a,b] [] 0x410788d1e238738d
theorem J4:a=c→d=c→d≤b→a≤b:=arQ [a,c,d,b] [] 0x410415034540f1ce3c738d
theorem IW:c=a→c≤b→a≤b:=arQ [c,a,b] [] 0x41053ce14f34738d
theorem IV:a>1→a≠0:=arQ [a] [] 0x40e11e1346362
theorem IU:¬a>1→a≤1:=arQ [a] [] 0x4162343846362
theorem IT:0<b→a≤b-1→a+1≤b:=arQ [b,a] [] 0x410534188e14288d386361
theorem IS:a<64→a≤16777216:=arQ [a] [] 0x414000000000004000003e346000040f4d
theorem IR:0<b→b=a→-(↑a:Int)≤-1:=arQ [b,a] [] 0x410812188484584e1ce346361
theorem IP:0<b→b=a→Int.toNat (-1+(↑a:Int))=b-1:=arQ [b,a] [] 0x41070a23468411613848621ce346361
theorem IO:0≤x→-9223372036854775808≤x:=arQ [] [x] 0x420d121008000000000000000f88361
theorem IN:0≤x→¬x<0:=arQ [] [x] 0x40e1261348361
theorem IM:0≤x→Int.toNat x<a→0≤x∧x<(↑a:Int):=arQ [a] [x] 0x410124584d34836118d1a1348361
theorem IL:x<(↑b:Int)→b=a→x<(↑a:Int):=arQ [b,a] [x] 0x410916138d1ce34916134d
theorem IJ:b=a→b=c→c≤d+1→e=d→e≤1000→a≤16777216+1:=arQ [b,a,c,d,e] [] 0x410410414188000000000004000003e3850003e8f511d044506240f1cf34738d
theorem IH:a+4*c≤980→b≤c→a+4*b≤980:=arQ [a,c,b] [] 0x41050003d4f412e53cd14e3c50003d4f412e538d
theorem IG:a+40*c≤9800→b≤c→a+40*b≤9800:=arQ [a,c,b] [] 0x4105002648f412c0000a3d3cd14e3c5002648f412c0000a3d38d
theorem IF:a+40*(b+1)≤9800→a+3+40*b≤9800:=arQ [a,b] [] 0x414009923d04b000028f4e064345002648f412c0000a3d06238d
theorem IE:a+4*b≤980→a<1000:=arQ [a,b] [] 0x418000fa3d3450003d4f412e538d
theorem Lz:a+1≤a+(b+1):=arQ [a,b] [] 0x504188e34188d
theorem Ly:c=b+1→c≤a→a-b=a-c+1:=arQ [c,b,a] [] 0x410706208d3c238f14f34706238d
theorem ID:1+a+b=a+(b+1):=arQ [a,b] [] 0x704188e341381362
theorem IC:a=c→b≤d→0≤(↑a:Int)+1+((↑b:Int)-(↑c:Int)-1)∧(↑a:Int)+1+((↑b:Int)-(↑c:Int)-1)≤(↑d:Int):=arQ [a,c,b,d] [] 0x410120585004288216138584f06216134804288216138584f0621613611503c738d
theorem IB:x≤(↑a:Int)→Int.toNat x≤a:=arQ [a] [x] 0x414d1a134816134d
theorem IA:a≤b→0≤(↑a:Int)∧(↑a:Int)≤(↑b:Int):=arQ [a,b] [] 0x404816138584d20584d84538d
theorem Iz:x<(↑a:Int)→a≤1000→x<9223372036854775808:=arQ [a] [x] 0x4109008000000000000000f8d14000fa3d34916134d
theorem Iy:a≤1+b→b<c→c≤60→a≤10000:=arQ [a,b,c] [] 0x410414009c43d34500003cf4f18f38504e88d
theorem Ix:a≤c+1→c≤1+b→a≤1+(b+1):=arQ [a,c,b] [] 0x410504188f88d1413e238506238d
theorem Iw:a≤1+b→a≤1+b+0:=arQ [a,b] [] 0x41418413a234504e88d
theorem Iv:a≤1+b+c→b≤60→c<d→d≤1000→a≤10000:=arQ [a,b,c,d] [] 0x4104105002710f4d14000fa3d40640f140000f3d38504f04e88d
theorem Iu:a≤d+1→d≤1+b+c→a≤1+b+(c+1):=arQ [a,d,b,c] [] 0x410504189004f88d1414013e238506238d
theorem It:a≤1+b+c→b≤60→c≤1000→a≤2000:=arQ [a,b,c] [] 0x410414001f43d3450003e8f4f140000f3d38504f04e88d
theorem Is:a≤1000→(↑a:Int)<1152921504606846976:=arQ [a] [] 0x424004000000000000003e1613450003e8f4d
theorem Ir:a+3≤a+8:=arQ [a] [] 345362405645
theorem Iq:a+6≤a+8:=arQ [a] [] 345362405837
theorem Ip:(↑a:Int)≠(↑b:Int)→a≤b→a<b:=arQ [a,b] [] 0x410638d14e34384a16138584d
theorem Io:x+(y+z)=x+y+z:=arQ [] [x,y,z] 0xa04f04e34104f38d
theorem Im:a=b→b≤c→c≤1000→a≤1000:=arQ [a,b,c] [] 0x410414000fa3d3450003e8f4f14f38738d
theorem Il:a=b+(0+1+1+1+1)+c→b≤500→c≤d→d≤100→a≤999999:=arQ [a,b,c,d] [] 0x41041050f423ff4d14000193d40540f140007d3d38704f0418818818818a138d
theorem Ik:(↑a:Int)=(↑(b+1):Int)→a≤0+b→b=c+(0+1+1+1+1)+d→False:=arQ [a,b,c,d] [] 0x41048470500418818818818a13ce1413a134a16106238584d
theorem Ij:a≤0+b→b=c+(0+1+1+1+1)+d→a<b+1:=arQ [a,b,c,d] [] 0x410606238d1c140106206206206284f38504e84d
theorem Ii:a≤b+1→b=c+(0+1+1+1+1)+d→c≤500→d≤e→e≤100→a≤1000:=arQ [a,b,c,d,e] [] 0x410410414000fa3d345000064f511514050001f4f4f1c140106206206206284f38506238d
theorem Ih:a=b+(0+1+1+1+1)+c→b≤500→c≤100→a≤700:=arQ [a,b,c] [] 0x410414000af3d345000064f4f140007d3d38704f0418818818818a138d
theorem Ig:a≤1→b≤c→a+b≤c+1:=arQ [a,b,c] [] 0x41050623c138d14f38588d
theorem Ie:a≤1000→b≤c→c≤d→d≤1000→a+b≤1000000:=arQ [a,b,c,d] [] 0x41041050f4240f4138d14000fa3d40540f14f3850003e8f4d
theorem Ic:a≤1000→b≤1000→a+b≤1000000:=arQ [a,b] [] 0x41050f4240f4138d14000fa3d3850003e8f4d
theorem Ib:(↑(a+b):Int)=(↑a:Int)+(↑c:Int)→b<c→False:=arQ [a,b,c] [] 0x412118f38a04584f16134584138d
theorem I9:0<b→a≤c→c=b-1→a+1≤b:=arQ [b,a,c] [] 0x410414d0623870a234f14f386361
theorem I8:a≤c→a≤b+c:=arQ [a,c,b] [] 0x414138f34538d
theorem I7:a≤c→a+b≤b+c:=arQ [a,c,b] [] 0x414138f04f34538d
theorem I6:a+b≤d→a+b≤c+d:=arQ [a,b,d,c] [] 0x41413d004e3453c138d
theorem HW:a+b<a+(c-d+1+b):=arQ [a,b,c,d] [] 0x604138188240f34138d
theorem HV:c<b→a+(b-(c+1)+1+d)<a+(b-c+1+d):=arQ [c,b,a,d] [] 0x418105006208d38f04140188206234e3c638d
theorem HU:a+(b+2)≤d→d+c<d+e→a+(b-0+1+c)<d+e:=arQ [a,b,d,c,e] [] 0x41060513c10500620a138d18144f0503c53c106338d
theorem HT:a=c→c=b→(↑a:Int)=(↑b:Int):=arQ [a,c,b] [] 0x410a1613c584d1cf38738d
theorem HS:a≤c→c=b→¬a=c→(↑a:Int)≠(↑b:Int):=arQ [a,c,b] [] 0x41040e128584f16134384738d1cf38538d
theorem HR:a≤b→¬a=b→a<b:=arQ [a,b] [] 0x410638d0e11ce34538d
theorem HP:a≤c→c=b→¬a=c→a<b:=arQ [a,c,b] [] 0x410418f34384738d1cf38538d
theorem HO:a≤b→b=c→c≤1000→¬a=b→(↑a:Int)<9223372036854775808:=arQ [a,b,c] [] 0x4104109008000000000000000f8584d0e11ce3450003e8f4f1cf38538d
theorem HN:a<b+a+1:=arQ [a,b] [] 413961343885
theorem HM:a<b→a<b+c+1:=arQ [a,b,c] [] 0x41818813ce34638d
theorem HL:a+b+c=a+(b+c):=arQ [a,b,c] [] 0x70413ce3413c138d
theorem HK:a≤40→b≤40*c→a+b≤40*(c+1):=arQ [a,b,c] [] 0x41052c0000a3d0623c138d14b000028f4f385000028f4d
theorem HJ:a+3≤a+11:=arQ [a] [] 345412737293
theorem HI:a=b→b≤c→c≤10→a≤10:=arQ [a,b,c] [] 0x410416b345acf14f38738d
theorem HG:a≤40*b→b≤c→c≤10→0+a≤400:=arQ [a,b,c] [] 0x410414000643d04d845acf14f3852c0000a3d38d
theorem HF:a≤b→b≤10→0+a≤10:=arQ [a,b] [] 0x4105ac136116b38538d
theorem HE:a≤0+b→b≤c→c≤50→a≤10000:=arQ [a,b,c] [] 0x410414009c43d345000032f4f14f38504e84d
theorem HD:a≤40*b→b≤10→0+a≤400:=arQ [a,b] [] 0x4105000190f4136116b3852c0000a3d38d
theorem HC:a+10≤a+11:=arQ [a] [] 345412737741
theorem HA:a+1≤63∧0≤x∧x<2147483647→a≤100000:=arQ [a] [x] 0x414061a83d34104900000000007ffffffff8d20d84500003ff4188d
theorem Hz:a+1≤63∧0≤x∧x<2147483647→a≤63:=arQ [a] [x] 0x4140000ffd34104900000000007ffffffff8d20d84500003ff4188d
theorem Hy:x<1000→x<1073741824:=arQ [] [x] 0x424000000000100000003e3490003e8f4d
theorem Hx:a-b=0→¬a<b→a=b:=arQ [a,b] [] 0x410738d0e118e34784238d
theorem Hw:(↑a:Int)<3→a<3:=arQ [a] [] 0x41a434990584d
theorem Hv:a<min b c→b<d→c=d→a<b:=arQ [a,b,c,d] [] 0x410418e34740f19038614f38d
theorem Hu:(↑a:Int)<3→a≤2:=arQ [a] [] 0x416334990584d
theorem Ht:(↑a:Int)<2→a≤1:=arQ [a] [] 0x41623498c584d
theorem Hs:(↑b:Int)+1<(↑c:Int)→a=0→b<c→a=0∧b+1<c:=arQ [b,c,a] [] 0x410404638188d1e13c638d1e13c916138188584d
theorem Hr:b<c→¬(↑b:Int)+1<(↑c:Int)→¬(a=0∧b+1<c):=arQ [b,c,a] [] 0x410384118e06234784f0e124584e06216134638d
theorem Hq:¬a=0→¬(a=0∧b+1<c):=arQ [a,b,c] [] 0x40e10463c188e1e134384784d
theorem Hp:b<a→c=0∧b+1<a→0<(↑a:Int)-(↑b:Int)-1:=arQ [b,a,c] [] 0x41090a208584d1613a104638188d1e13c638d
theorem Ho:a=1→(↑a:Int)=1:=arQ [a] [] 0x42a216134788d
theorem Hn:(↑b:Int)+1<(↑c:Int)→a=1→b<c→a=1∧b+1<c:=arQ [b,c,a] [] 0x410404638188d1e23c638d1e23c916138188584d
theorem Hm:b<c→¬(↑b:Int)+1<(↑c:Int)→¬(a=1∧b+1<c):=arQ [b,c,a] [] 0x410384118e06234788f0e124584e06216134638d
theorem Hl:¬a=1→(↑a:Int)≠1:=arQ [a] [] 0x40e12a216134384788d
theorem Hk:¬a=1→¬(a=1∧b+1<c):=arQ [a,b,c] [] 0x40e10463c188e1e234384788d
theorem Hj:b<a→c=1∧b+1<a→0<(↑a:Int)-(↑b:Int)-1:=arQ [b,a,c] [] 0x41090a208584d1613a104638188d1e23c638d
theorem Hi:a≤b→b<c→c≤3→a≤3:=arQ [a,b,c] [] 0x410416434590f18f38538d
theorem Hh:0<a→0<(↑a:Int):=arQ [a] [] 0x424584d846361
theorem Hg:a=b→b<c→c≤3→a≤1000000:=arQ [a,b,c] [] 0x4104143d0903d34590f18f38738d
theorem Hf:a-c=0→c=b→¬a<c→a=b:=arQ [a,c,b] [] 0x41041cf34384638d1cf38784238d
theorem He:1≤b→a=b→1≤a:=arQ [b,a] [] 0x41053a21cd385362
theorem Hd:a=b→b≤3→a≤3:=arQ [a,b] [] 0x410590d16438738d
theorem Hc:a+3+1+1+1+1=7+a:=arQ [a] [] 0x704da0188188188188190d
theorem Hb:(↑a:Int)=(↑b:Int)+1→a≤0+b→False:=arQ [a,b] [] 0x41211413a134a06216138584d
theorem Ha:(↑a:Int)+(7+(↑b:Int))=(↑(a+(7+b)):Int):=arQ [a,b] [] 0xa1610413a834104584ea0584d
theorem H9:a≤9*c→b≤2→c+1≤d→c=0→a+(7+b)≤9*(c+1):=arQ [a,c,b,d] [] 0x41041052ea06238104fa0d1e138540188e1633c52ea38d
theorem H8:a≤9*c→b≤1→c+1≤d→a+(7+b)≤9*(c+1):=arQ [a,c,b,d] [] 0x410414ba8188e0413e834540188e1623c52ea38d
theorem H7:a≤9*b→b<c→c≤3→a≤100:=arQ [a,b,c] [] 0x410414000193d34590f18f3852ea38d
theorem H6:a≤b→b=c→c≤100→a≤1000000:=arQ [a,b,c] [] 0x4104143d0903d345000064f4f1cf38538d
theorem H5:(↑(a+4):Int)-1=(↑(a+3):Int):=arQ [a] [] 0xa16106434288584194d
theorem H4:a=b+4+c→b≤100→c<d→d≤2→a≤110:=arQ [a,b,c,d] [] 0x410410500006ef4d16340640f14000193d38704f06538d
theorem H3:a≤b→b<c→c≤3→a≤1000000:=arQ [a,b,c] [] 0x4104143d0903d34590f18f38538d
theorem H0:a=b+4+c→b≤100→c≤2→a≤999997:=arQ [a,b,c] [] 0x4104143d08f7d3458cf14000193d38704f06538d
theorem GW:a<b→b≤3→min a b≤10000:=arQ [a,b] [] 0x4105002710f4538d16438638d
theorem GV:a<b→min a b=a:=arQ [a,b] [] 0x41cd14e34638d
theorem GU:a=b→b<c→c≤3→a<3:=arQ [a,b,c] [] 0x41041a434590f18f38738d
theorem GT:a<c→d<e→e≤3→4*a+3-b<4*c+3-d:=arQ [a,c,d,e,b] [] 0x41041823c190b94e0910642e53459101903c638d
theorem GS:a+2≤b→a≤b-2:=arQ [a,b] [] 0x41428ce3453818cd
theorem GR:1≤a→2≤a*2:=arQ [a] [] 0x414c8cd8c5362
theorem GP:2≤b→a≤c→c≤2*(b-2)→a+1+1+2≤b*2:=arQ [b,a,c] [] 0x410414c8cd0630620623852e30a334f14f385363
theorem GO:a≤11→a+1+1≤13:=arQ [a] [] 0x416e062062345b0d
theorem GN:a+2≤b→b≤8192→a≤10000:=arQ [a,b] [] 0x4105002710f4d14008003d3853818cd
theorem GM:a<c→c≤3→4*a+3-b≤11:=arQ [a,c,b] [] 0x4105b023c190b94d16438638d
theorem GL:a+(b+1+1)≤900000→a≤999998:=arQ [a,b] [] 0x4143d08fbd3450dbba0f4106206238d
theorem GK:a+(d+1+1)≤900000→b+c+e=d→a+(0+1+1)+b+c≤900000:=arQ [a,d,b,c,e] [] 0x41050dbba0f414013c106206284d1ce0510503c50dbba0f4106206238d
theorem GJ:(↑a:Int)+1<(↑b:Int)→a<b→a+1<b:=arQ [a,b] [] 0x410638188d18e34916138188584d
theorem GI:b<a→¬(↑b:Int)+1<(↑a:Int)→a≤b+1:=arQ [b,a] [] 0x410506234e0e124584e06216134638d
theorem GH:x<16→a=16→Int.toNat x<a:=arQ [a] [x] 0x410634684d1f1349c4d
theorem GG:a≤0+b→b≤c→c≤1000→a≤10000:=arQ [a,b,c] [] 0x410414009c43d3450003e8f4f14f38504e84d
theorem GF:a≤0+b→b≤1000→a≤1000+0:=arQ [a,b] [] 0x41050610003e8f4d14000fa3d38504e84d
theorem GE:x=-1→x=0-1:=arQ [] [x] 0x42828a134a12188d
theorem GD:a-b=c+1→b≤a→a-(b+1)=c:=arQ [a,b,c] [] 0x41073c206238d14d3870623c238d
theorem GC:1≤y→y≤x→x≠0-1:=arQ [] [y,x] 0x410384a0a284e20e348362
theorem GB:y≤x→0≤x-y:=arQ [] [y,x] 0x420234e84838d
theorem GA:Int.toNat (x-y)<a→y≤x→a≤1000→x-y<9223372036854775808:=arQ [a] [x,y] 0x410424020000000000000003e08e3450003e8f4d20d38634684238d
theorem Gz:a≤1000+b→b≤c→c<6000→a≤10000:=arQ [a,b,c] [] 0x410414009c43d346001770f4f14f38504e0003e8f4d
theorem Gy:a=16→Int.toNat 1<a:=arQ [a] [] 0x418d1a1887c4d
theorem Gx:a=16→15<(↑a:Int):=arQ [a] [] 0x424584dc07c4d
theorem Gw:a+b+c+d=a+(b+c)+d:=arQ [a,b,c,d] [] 0x70500413ce3414013c138d
theorem Gv:0+a≤a+b:=arQ [a,b] [] 344909419361
theorem Gu:a<d→d=b+c→¬a<b→a-b<c:=arQ [a,d,b,c] [] 0x410419008f3438463cd1c140f38638d
theorem Gs:a-b=c+d→¬a<b→a=b+c+d:=arQ [a,b,c,d] [] 0x410705004f38d0e118e3470503c238d
theorem Gr:0+a=0+b→a=b:=arQ [a,b] [] 0x41ce34704e841361
theorem Gq:e+a+b=e+c+d→a+b=c+d:=arQ [e,a,b,c,d] [] 0x41c145004f3870510503413c138d
theorem Gp:(↑a:Int)+1+((↑b:Int)-(↑a:Int)-1)=(↑b:Int):=arQ [a,b] [] 0xa1613810a208584d16138188584d
theorem Go:a+1≥b+1→a<b+1→a=b:=arQ [b,a] [] 0x410734e18188d38506238188d
theorem Gn:a+(b+1)<c→a+b+1<c:=arQ [a,b,c] [] 0x418f06204e3463c106238d
theorem Gm:a+b-a=b:=arQ [a,b] [] 496105689997
theorem Gl:a=c+d→b=c+e→d≤e→a≤b:=arQ [a,c,d,b,e] [] 0x410415034544f1c144e40704f38d
theorem Gk:a≤c→b=d+c→a≤b:=arQ [a,c,b,d] [] 0x41053cd1c13903c538d
theorem Gj:c=d→c=e+a→d=e+b→a=b:=arQ [c,d,e,a,b] [] 0x41041d14070513ce1c140f34738d
theorem Gi:a+d≤e→b<d→c=e→a+b<c:=arQ [a,d,e,b,c] [] 0x41041910503473d118e4053c138d
theorem Gh:a=c→b≥c→a≤b:=arQ [a,c,b] [] 0x41053cd14f38738d
theorem Gg:a≤11→a<100:=arQ [a] [] 0x418000193d345b0d
theorem Gf:a≤11→a<101:=arQ [a] [] 0x418000197d345b0d
theorem Ge:a≤3→b≤3*c→a+b≤3*(c+1):=arQ [a,b,c] [] 0x41052e40623c138d14b90f38590d
theorem Gd:a≤2→b≤a→a≤4∧b≤3:=arQ [a,b] [] 0x410116438594d14d3858cd
theorem Gc:a≤3→b≤a→a≤3∧b≤3:=arQ [a,b] [] 0x410116438590d14d38590d
theorem Gb:a≤3*b→b≤3→a≤9:=arQ [a,b] [] 0x4105a8d1643852e438d
theorem Ga:a≤b*11→b≤10→a≤110:=arQ [a,b] [] 0x410500006ef4d16b38532c38d
theorem G9:0<c→a+c≤b→a<b:=arQ [c,a,b] [] 0x41063ce14f04d386361
theorem G8:a<b→0≤(↑a:Int)∧(↑a:Int)≤(↑b:Int):=arQ [a,b] [] 0x404816138584d20584d84638d
theorem G7:a≤b*3→b≤10→a<64:=arQ [a,b] [] 0x4106000040f4d16b38532438d
theorem G6:a≤b→b<3→a≤1000:=arQ [a,b] [] 0x41050003e8f4d1a438538d
theorem G5:a≤2→b<c→7+a≤9:=arQ [a,b,c] [] 0x4105a8136818f3858cd
theorem G4:a≤1→b<c→7+a≤9:=arQ [a,b,c] [] 0x4105a8136818f38588d
theorem G3:a≤b*9→b≤3→a≤40:=arQ [a,b] [] 0x4105000028f4d16438532a38d
theorem G2:a<3→0≤4*((↑a:Int)+1)∧4*((↑a:Int)+1)≤1000:=arQ [a] [] 0x40480003e8f4b94188584d20b94188584d84690d
theorem G1:900+(↑a:Int)≠0:=arQ [a] [] 0x384a84116134000e13d
theorem G0:a<b→b≤c→c<3→a<1000:=arQ [a,b,c] [] 0x410418000fa3d34690f14f38638d
theorem FW:a<b→b≤3→a<1000:=arQ [a,b] [] 0x41060003e8f4d16438638d
theorem FV:(↑a:Int)-(↑b:Int)-1=(↑(c+a):Int)-(↑(c+b):Int)-1:=arQ [a,b,c] [] 0xa0a208584138f16104d3c288216138584d
theorem FU:(↑a:Int)+(↑b:Int)=(↑(b+a):Int):=arQ [a,b] [] 0xa16104d38116138584d
theorem FT:a+(b+c)=a+b+c:=arQ [a,b,c] [] 0x704f04e34104f38d
theorem FS:a=b→a≤b+1:=arQ [a,b] [] 0x414188e34738d
theorem FR:a=b+1→a≤b+1:=arQ [a,b] [] 0x414188e34706238d
theorem FP:y=x+(↑a:Int)→x≤y:=arQ [a] [y,x] 0x420d38a04584d38d
theorem FO:x=y+(↑a:Int)→Int.toNat (x-y)=a:=arQ [a] [x,y] 0x41cd1a108e34a04584d38d
theorem FN:a≤b→b≤11→a<12:=arQ [a,b] [] 0x4106b4d16c38538d
theorem FL:90000+8*(↑(a+1):Int)≤z→y+x<90000→¬x+y=z-8:=arQ [a] [z,y,x] 0x410384a0a934138f24057e43d04f3883412e916106234057e43d
theorem FK:x+y=y+x:=arQ [] [x,y] 688490288013
theorem FJ:a≤b→1+a≤b+(1+c):=arQ [a,b,c] [] 0x414104f88e04d88538d
theorem FI:90000+8*(↑(b+1):Int)≤x→a<b→90000+8*(↑(a+1):Int)≤x-8:=arQ [b,a] [x] 0x41080a93412e916106238057e43d18d3883412e916106234057e43d
theorem FH:a<b→a≤b-1:=arQ [a,b] [] 0x414288e34638d
theorem FG:a≤11→b<a→a-1≤11:=arQ [a,b] [] 0x4105b0288d18d385b0d
theorem FF:a≤e→b≤c→e≤d→1+a+b≤c+(1+d):=arQ [a,e,b,c,d] [] 0x410414105189004f04d88544e1503c538d
theorem FE:90000+8*(↑(a+1):Int)≤z→x+y<90000→¬x+y=z-8:=arQ [a] [z,x,y] 0x410384a0a93413ce24057e43d04f3883412e916106234057e43d
theorem FD:x-8+8=x:=arQ [] [x] 701180947021
theorem FC:7+c≤b→a≤c→4+a+1+1+1≤b:=arQ [c,b,a] [] 0x41053818818818813e514d3c5381368
theorem FB:x≤y∨y<90000→x-8≤y∨y<90000:=arQ [] [x,y] 0x4089015f90f4e20e0a934224057e43d38838d
theorem FA:90000+8*(↑(a+1):Int)≤y→y≤x∨x<90000→¬x=y-8:=arQ [a] [y,x] 0x410384a0a934e089015f90f4e20e3483412e916106234057e43d
theorem Fz:a+1=b+1→a=b:=arQ [a,b] [] 0x41ce34706238188d
theorem Fy:16+16*(↑a:Int)=16*(↑(a+1):Int):=arQ [a] [] 0xa2f11610623412f1161371
theorem Fw:16*(↑a:Int)+0=16*(↑b:Int)+0→a=b:=arQ [a,b] [] 0x41ce34a0612f116138184bc4584d
theorem Fv:a<b→b≤3→0≤16*(↑a:Int)∧16*(↑a:Int)≤48:=arQ [a,b] [] 0x4101200000c3d2f11613482f116136116438638d
theorem Fu:¬a≤50→a>50:=arQ [a] [] 0x418d000032f43845000032f4d
theorem Ft:0≤(↑c:Int)+1+x∧(↑c:Int)+1+x<(↑b:Int)→a=Int.toNat ((↑c:Int)+1+x)→a<b:=arQ [c,b,a] [x] 0x410638f1c684134188584d3c124584e04d06216134804d062161361
theorem Fs:c=a-1→c≤b→a≤b+1:=arQ [c,a,b] [] 0x41050623ce14f3470a238d
theorem Fr:a<b+1→a≠b→a<b:=arQ [a,b] [] 0x410638d0e11ce34606238d
theorem Fq:¬0≤(↑a:Int)→0≤(↑a:Int):=arQ [a] [] 0x420584d843848161361
theorem Fp:¬(↑b:Int)<(↑a:Int)→a≤b:=arQ [b,a] [] 0x414d38384916138584d
theorem Fo:a≤c→b≤1000→c≤2000→a+2*b≤5000:=arQ [a,c,b] [] 0x410414004e23d04b8cf3450007d0f4e14000fa3d3c538d
theorem Fn:a+1+2*(b-c)≤5000→a≤999999:=arQ [a,b,c] [] 0x4143d08ffd345001388f412e308f38188d
theorem Fm:d=3*(a-b)+(c+1)→3*(a-b)+c<d:=arQ [d,a,b,c] [] 0x418d0502e408f3870418902e408f38d
theorem Fk:a+1+2*(b-c)≤5000→a≤10000:=arQ [a,b,c] [] 0x414009c43d345001388f412e308f38188d
theorem Fj:a+1+2*(b-c)≤5000→a+2*(b-c)≤5000:=arQ [a,b,c] [] 0x414004e23d04b8c23ce345001388f412e308f38188d
theorem Fi:a+1+2*(c-d)≤5000→b≤1→e<c→a+b≤1000000:=arQ [a,c,d,b,e] [] 0x4104143d0903d050346391162405001388f412e308f38188d
theorem Fh:a+1+2*(d-e)≤5000→b≤1→c≤1→f<d→a+b+c≤1000000:=arQ [a,d,e,b,c,f] [] 0x41041050f4240f4144140d18e485891162405001388f412e308f38188d
theorem Fg:b+1≤a→d≤1→e≤1→f=3*(a-b)+(c+1)→g<a→3*(a-(b+1))+(c+d+e)<f:=arQ [b,a,d,e,f,c,g] [] 0x41041041910414013d22e408188d3863931c106248b90234e4458901623c538188d
theorem Ff:a+1+2*(d-e)≤5000→a+1≤10000→b≤1→c≤1→f<d→a+b+c≤10000:=arQ [a,d,e,b,c,f] [] 0x410410414009c43d05105034639216244589014009c43d062345001388f412e308f38188d
theorem Fe:a+1+2*(d-e)≤5000→b≤1→c≤1→e+1≤d→f<d→a+b+c+2*(d-(e+1))≤5000:=arQ [a,d,e,b,c,f] [] 0x410410414004e23d04b8c20623ce05105034639214e0623c5891162405001388f412e308f38188d
theorem Fd:a≤b→b≤3*c→c≤3→a≤9:=arQ [a,b,c] [] 0x410416a34590f14b90f38538d
theorem Fc:b<d→c=d+e→a+b≤a+c:=arQ [b,d,c,e,a] [] 0x410504f4413511c140e3c638d
theorem Fb:b≠0→a<a+b:=arQ [b,a] [] 0x418134e38384784d
theorem Fa:a≤11→90000+8*(↑(a+1):Int)≤100000:=arQ [a] [] 0x420061a83d04ba4584188d015f90f45b0d
theorem F9:a≤11→90000+8*(↑(a+1):Int)≤99992:=arQ [a] [] 0x420061a63d04ba4584188d015f90f45b0d
theorem F8:x+y<90000→¬x+y=99992:=arQ [] [x,y] 0x40e128061a63d04e349015f90f4138d
theorem F7:x+y<90000→¬x+y=99996:=arQ [] [x,y] 0x40e128061a73d04e349015f90f4138d
theorem F6:x+(↑a:Int)+6+(↑b:Int)+1=x+(↑a:Int)+7+(↑b:Int):=arQ [a,b] [x] 0xa04584e06804584d3418811613819c116134d
theorem F5:x+(↑a:Int)+7+(↑b:Int)=x+(↑(a+(4+b+3)):Int):=arQ [a,b] [x] 0xa04584106404e94d341161381a0116134d
theorem F4:a≤b*288→b≤3→1+1+1+1+a+1+1+1+1<6000:=arQ [a,b] [] 0x4106001770f418818818818813418818818a216438530000483d38d
theorem F3:(↑a:Int)=(↑b:Int)→a=b:=arQ [a,b] [] 0x41ce34a16138584d
theorem F2:a<c→b<d→c≤3→d≤3→a<3∧b<3:=arQ [a,c,b,d] [] 0x41041011a43c690d16440590e1903c638d
theorem F1:b=a→b≤3*c→c≤3→a≤9:=arQ [b,a,c] [] 0x410416a38590f14b90f34738d
theorem F0:Int.toNat (1+(↑a:Int))=1+a:=arQ [a] [] 0x704d886841161362
theorem EW:(↑a:Int)<2→1+(↑a:Int)<1099511627776:=arQ [a] [] 0x424000000040000000003e04584d8898c584d
theorem EU:-1099511627776<1+(↑a:Int):=arQ [a] [] 0x904584d88484000000040000000003e
theorem ET:(↑b:Int)<2→a=c→c<1+b→a≤1000000:=arQ [b,a,c] [] 0x4104143d0903d38604d88f1cf3898c584d
theorem ES:a=1+b→1≤a:=arQ [a,b] [] 0x414d88704e88d
theorem ER:(↑b:Int)<2→a=1+b→a≤2:=arQ [b,a] [] 0x41058ce1c13623898c584d
theorem EP:a=1→b=2→a+b≤1000:=arQ [a,b] [] 0x41050003e8f4138d1e338788d
theorem EO:a≤(b+1)*11→b≤9→a≤200:=arQ [a,b] [] 0x41050000c8f4d16a38532c06238d
theorem EN:a+4≤a+15:=arQ [a] [] 345479846221
theorem EL:1≤1+(↑a:Int):=arQ [a] [] 550922148002
theorem EK:(↑a:Int)<50→1+(↑a:Int)≤100:=arQ [a] [] 0x420000193d04584d889000032f4584d
theorem EJ:0≤64+16*(↑a:Int):=arQ [a] [] 0x804bc4584d000040f61
theorem EI:(↑a:Int)<9→64+16*(↑a:Int)≤1000:=arQ [a] [] 0x420000fa3d04bc4584d000040f49a8584d
theorem EH:0≤y∧y≤48→x≤1000→x+y<90000:=arQ [] [y,x] 0x4109015f90f4134e20000fa3d381200000c3d348361
theorem EG:a≤c*10000→b≤10000→c≤d→d≤3→a+b≤900000:=arQ [a,c,b,d] [] 0x41041050dbba0f413cd16440540e14009c43d3c530009c43d38d
theorem EF:a≤3→b≤2→a+b≤1000000:=arQ [a,b] [] 0x41050f4240f4138d16338590d
theorem EE:a≤3→b≤2→a+b≤5:=arQ [a,b] [] 0x410598138d16338590d
theorem ED:a≤5→3*(9-0)+a≤40:=arQ [a] [] 0x4140000a3d04d2e40a1a8598d
theorem EC:a≤200→(↑a:Int)<1099511627776:=arQ [a] [] 0x424000000040000000003e1613450000c8f4d
theorem EB:a<b→b≤200→(↑a:Int)<9223372036854775808:=arQ [a,b] [] 0x4109008000000000000000f8584d14000323d38638d
theorem EA:b<a→¬(↑a:Int)>(↑b:Int)→(↑a:Int)>(↑b:Int):=arQ [b,a] [] 0x410916138584d0e124584e16134638d
theorem Ez:(↑a:Int)>(↑b:Int)→a≤b→¬(↑a:Int)>(↑b:Int):=arQ [b,a] [] 0x410384916138584d14d38916138584d
theorem Ey:a=b→b≤c→c≤200→a≤1000000:=arQ [a,b,c] [] 0x4104143d0903d3450000c8f4f14f38738d
theorem Ex:3*(9-b)+(a+1)≤40→a≤999999:=arQ [b,a] [] 0x4143d08ffd385000028f4106238b90236a
theorem Ew:3*(9-a)+(b+1)≤40→3*(9-a)+b≤40:=arQ [a,b] [] 0x4140000a3d04e2e408da85000028f4106238b90236a
theorem Ev:a<3→(↑a:Int)<9223372036854775808:=arQ [a] [] 0x424020000000000000003e16134690d
theorem Eu:3*(9-c)+(a+1)≤40→b≤2→a+b≤1000000:=arQ [c,a,b] [] 0x41050f4240f413ce1633c5000028f4106238b90236a
theorem Et:a+1≤9→a≤9→c≤2→3*(9-(a+1))+(b+c)<3*(9-a)+(b+1):=arQ [a,c,b] [] 0x41041810623cb90236a04138f2e408188da858ce16a345a8188d
theorem Es:3*(9-a)+(b+1)≤40→a+1≤9→a≤9→c≤2→3*(9-(a+1))+(b+c)≤40:=arQ [a,b,c] [] 0x4104105000028f4104f38b90206236a1633c5a8d16a062345000028f4106238b90236a
theorem Er:a+1≤b∧b<a+1+c→a≤b∧b<a+(c+1):=arQ [a,b,c] [] 0x404604188f34e14e3411813c188d38538188d
theorem Ak:a+1≤b→c=a→c=b→False:=arQ [a,b,c] [] 0x410484738f1cd3c538188d
theorem Ep:a<b→b≤1000→a≤1000000:=arQ [a,b] [] 0x41050f4240f4d14000fa3d38638d
theorem Eo:a≤b→1+a≤b+1:=arQ [a,b] [] 0x414188e04d88538d
theorem En:a≤b→a<b+1:=arQ [a,b] [] 0x418188e34538d
theorem El:(↑a:Int)+1+x≤(↑b:Int)→b≤1000→(↑a:Int)+1+x<9223372036854775808:=arQ [a,b] [x] 0x4109008000000000000000f8134188584d14000fa3d38816138134188584d
theorem Ek:a≤1000→(↑a:Int)<1099511627776:=arQ [a] [] 0x424000000040000000003e1613450003e8f4d
theorem Ej:0≤(↑a:Int)+1+x∧(↑a:Int)+1+x≤(↑c:Int)→b=c→(↑a:Int)+1+x≤(↑b:Int):=arQ [a,c,b] [x] 0x41081613c134188584d1ce3c120584e04d06216134804d062161361
theorem Ei:a<c→b=c→a≤b:=arQ [a,c,b] [] 0x41053cd1ce3c638d
theorem Eh:a+3≤a+4:=arQ [a] [] 345295296781
theorem Eg:x≤(↑b:Int)→a=b→c<b→Int.toNat x≤a:=arQ [b,a,c] [x] 0x410414e1a134634f1cd38816134d
theorem Ef:x≤(↑a:Int)→a≤1000→x<9223372036854775808:=arQ [a] [x] 0x4109008000000000000000f8d14000fa3d34816134d
theorem Ee:c=a+1→c≤b→a<b:=arQ [c,a,b] [] 0x41063ce14f34706238d
theorem Ed:0+1≤a+1∧a+1≤0+c→b=c→a≤b:=arQ [a,c,b] [] 0x41053cd1ce3c11413a10623450623418a1
theorem Ec:0+1≤a∧a≤0+c→a<b+1→a-1<b:=arQ [a,c,b] [] 0x41063c288d18188f3411413a13453418a1
theorem Eb:(↑(a+1):Int)=(↑b:Int)+1→a<b→False:=arQ [a,b] [] 0x412118e34a06216138584188d
theorem Ea:a≤b→b≤c→c<d→d<64→a≤10000:=arQ [a,b,c,d] [] 0x4104105002710f4d18000103d40640f14f38538d
theorem E9:a+1≤a+5:=arQ [a] [] 345312073869
theorem E8:a+2≤a+5:=arQ [a] [] 345312073933
theorem E7:a≤b→b≤c→c≤1000→a≤1000000:=arQ [a,b,c] [] 0x4104143d0903d3450003e8f4f14f38538d
theorem Aj:a≤c→b=c→a≤b:=arQ [a,c,b] [] 0x41053cd1ce3c538d
theorem uH:2≤b→a-1≠0→f+b+c+1<d+e→f-a>0→a-1+(b-1)+c+1<d+e:=arQ [b,a,f,c,d,e] [] 0x41041060524418814010a234288e18238f84605244188140134f0e11e10a2385363
theorem uG:1≤a→a+f+c+1<d+e→f-1-b>0→a-1+b+c+1<d+e:=arQ [a,f,c,d,e,b] [] 0x410418145006204f0520a23460920a23a118145006204f04e345362
theorem Ai:16777216≥100000→2=2→a=1→a+2≤16777216:=arQ [a] [] 0x410414000000000004000003e06334788d1e38c5000000000001000000f8061a83d
theorem Ah:16777216≥100000→2=2→a=1→b=1→a+2+b≤16777216:=arQ [a,b] [] 0x4104105000000000001000000f813818cd1e238788d1e38c5000000000001000000f8061a83d
theorem Ag:a<0+c→b=c→a<b:=arQ [a,c,b] [] 0x41063cd1ce3c604e84d
theorem E5:1≤a→¬0+1=a→0+1<a:=arQ [a] [] 0x41063418a10e11cd062845362
theorem E4:1≤a→¬1=a→1<a:=arQ [a] [] 0x41063620e11cd885362
theorem E3:a+1<b→c<d→max 0 (b+d)=b+d→max 0 (b+d)≤a+c→False:=arQ [a,b,c,d] [] 0x41041211413cd10140e8470503840503a11903c638188d
theorem E2:1≤d→1≤e→a+min (max 0 (d+e)) 1≤b+c→¬0+1=d→¬1=e→a+1≤b+c:=arQ [d,e,a,b,c] [] 0x41041041414500623c38473a20e11cd06284505140116210138d84f14e885362
theorem E1:a+b+max 0 (c+d)<c+d→max 0 (c+d)=c+d→False:=arQ [a,b,c,d] [] 0x41211c140f10140f8460503c110140f84138d
theorem E0:a≠b→a≤b→max (a+1) b≤b:=arQ [a,b] [] 0x410538438188d14e34384738d
theorem DW:4096=4096→a=b→b≤c→c<4096→a<4096:=arQ [a,b,c] [] 0x4104106001000f4d18004003d3c53ce1ce347001000f4004003d
theorem DV:4096=4096→a≤b→b+1<4096→a<4096:=arQ [a,b] [] 0x410418004003d346001000f4188e14e347001000f4004003d
theorem DU:16777216=16777216→4096=4096→a=b→b≤c→c+1<4096→a≤16777216:=arQ [a,b,c] [] 0x410410414000000000004000003e346001000f4188f14f38738d1c004003d001000f47000000000001000000f8000000000004000003e
theorem DT:4096=4096→a≤b→b+1<4096→a≤16777216:=arQ [a,b] [] 0x410414000000000004000003e346001000f4188e14e347001000f4004003d
theorem DS:4096=4096→a<64→a+1<4096:=arQ [a] [] 0x4106001000f4188d18000103d347001000f4004003d
theorem DR:(↑a:Int)=(↑b:Int)+(↑c:Int)→0+1≤c→a≤0+b→False:=arQ [a,b,c] [] 0x410484504e84d14f06284a04584f16138584d
theorem DP:1=1→16777216≥100000→a+b≤1000→a+1≤16777216:=arQ [a,b] [] 0x410414000000000004000003e0623450003e8f4138d14000000000004000003e0186a0f478a2
theorem DO:1=1→16777216≥100000→a+b≤1000→a+1+b≤16777216:=arQ [a,b] [] 0x410414000000000004000003e04e0623450003e8f4138d14000000000004000003e0186a0f478a2
theorem DN:7+c≤b→a≤c→d≤11→7+a≤b:=arQ [c,b,a,d] [] 0x410414e04fa05b1014d3c5381368
theorem DM:287=287→a≤b→b≤287→a<6000:=arQ [a,b] [] 0x410418005dc3d34500011ff4e14e34700011ff400047fd
theorem DL:287=287→a≤d→b≤c*288→d≤287→1+a+b≤c*288+288:=arQ [a,d,b,c] [] 0x410410504000483d30000483d4013c13621400047fd38530000483d40f14e34700011ff400047fd
theorem DK:4096=4096→a≤2→a+1<4096:=arQ [a] [] 0x4106001000f4188d163347001000f4004003d
theorem DJ:a≤b→b≤c→c<d→d≤1000→a≤10000:=arQ [a,b,c,d] [] 0x4104105002710f4d14000fa3d40640f14f38538d
theorem DI:0+1≤a∧a≤0+b→a=a-1+1:=arQ [a,b] [] 0x41c188288d3411413a13453418a1
theorem DH:a<0+c→b=c→a≤b:=arQ [a,c,b] [] 0x41053cd1ce3c604e84d
end
theorem A1 {e c a b d:Nat}:a≤b→b≤c→c≤d→e=min b d-a+(min c d-b)→e=c-a:=FM.arQ [a,b,c,d,e] [] 6227283739027188922207747698474734409596972464508261261
theorem A2 {a e d b c:Nat}:a≤b→b≤c→c≤d→e=c-a→a+e≤d:=FM.arQ [a,b,c,d,e] [] 22123755542416809778387681985248649302925
theorem A3 {b a c:Nat}:a≤b→b≤c→b-a+(c-b)=c-a:=FM.arQ [a,b,c] [] 1318913953249965654251597398037389
theorem A4 {c a b:Nat}:a≤b→b≤c→c=a+(c-a):=FM.arQ [a,b,c] [] 78613311171617804219077517
theorem A5 {a e c b:Nat}:a≤b→b≤c→e=c-a→a+e=c:=FM.arQ [a,b,c,e] [] 1318682492988643999606856044008333
theorem A6 {a b c d:Nat}:a+b<c→b-d≠0→1≤min (a+b) c-(a+d):=FM.arQ [a,b,c,d] [] 90624171765348070934773576065526150668751757
theorem A7 {b a:Nat}:a<b→0<b-a:=FM.arQ [a,b] [] 1152439827063693
theorem A8 {a b c:Nat}:¬b≥c-a→a+b<c:=FM.arQ [c,a,b] [] 19347198067144990139277
theorem A9 {a b c d:Nat}:d<c-a→a+min b (c-a)≤c:=FM.arQ [d,c,a,b] [] 78948602452512156594795405
theorem M5 {a b c:Nat}:a<c→a-b<c:=FM.arQ [a,c,b] [] 1153252661158797
theorem M4 {a b c:Nat}:a<c→a-b≤c:=FM.arQ [a,c,b] [] 1148854614647693
theorem C0 {b a:Nat}:¬a≥b→0<b-a:=FM.arQ [b,a] [] 4720397860934538125
theorem C1 {a d c b:Nat}:b≤c→¬a≥b→d<b-a→a+d<c:=FM.arQ [b,c,a,d] [] 5401318341451522138020869864399590285
theorem M3 {a b c:Nat}:b≤c-a→b>0→a+b+1≠c→a+b≠c→a+b+1<c:=FM.arQ [b,c,a] [] 104476483133414039936219817742797655908685036451560209145983885
theorem M2 {d a b c:Nat}:d≤a+c→d≤a+b+c:=FM.arQ [d,a,c,b] [] 19259824303254857380749
theorem M1 {a c:Nat}:a<c→a+1≠c→a+1<c:=FM.arQ [a,c] [] 321984705579425547150494557069
theorem M0 {a b c:Nat}:b≤c-(a+1)→b>0→a+1+b≠c→a+1+b<c:=FM.arQ [b,c,a] [] 1520335954349419228918845591063692590528747071402893
theorem LW {a s:Nat}:a+min (max 0 s) 1<s→a+1<s:=FM.arQ [a,s] [] 79250867537763515241654349
theorem L5 {k l e s c d:Nat}:c+d+e+1<s→k≤c→d-1-l>0→k-1≠0→k-1+l+e+1<s:=FM.arQ [c,d,e,s,k,l] [] 7179569255436751791347474717082468587950232136555799573233928570811454349
theorem LB {a:Nat} {x:Int}:0≤x→x<(↑a:Int)→Int.toNat x<a:=FM.arQ [a] [x] 78609479220243261946102625
theorem LU {a b c:Nat}:b<c→c≤3→4*a+3-b=3-b+4*a:=FM.arQ [b,c,a] [] 22127682973526468417113296847096751088525
theorem LA {b c:Nat}:b<c→c≤3→b=0∨b=1∨b=2:=FM.arQ [b,c] [] 1318517702482205104204847278220173
theorem LS {x y:Int}:x<y→y≤x→False:=FM.arQ [] [x,y] 1145768647365517
theorem LR {a:Nat} {y x:Int}:y≤x→Int.toNat (x-y)<a→x≥y+(↑a:Int)→False:=FM.arQ [a] [y,x] 5401454788147556013782603636720305037
theorem LP {a c b:Nat}:a≤2000→b≤2000→a+min c b≤10000:=FM.arQ [a,b,c] [] 371195917123089451473085264171760654761613659981
theorem LO {c b:Nat}:b≤60→min c b≤10000:=FM.arQ [b,c] [] 323103088193669204995247165261
theorem LN {a b c:Nat}:¬a≥b→b≤c→a+b<c*2:=FM.arQ [b,a,c] [] 321984260261363336992170201997
theorem LM {a d c b e:Nat}:a+b≤c→e<b→d<e→a+d<c:=FM.arQ [a,b,c,e,d] [] 1318681255053326181075717008921485
theorem B1 {a b c:Nat} (h:b≤c) (h2:¬a≥b):a+(b-a)/2<c:=C1 h h2 (Nat.div_lt_self (C0 h2) (by decide))
theorem B2 {a b c:Nat} (h:b≤c) (h2:¬a≥b):a+(b-a)/2≤c:=Nat.le_of_lt (B1 h h2)
theorem B3 {a b c:Nat} (h:b<c) (h2:c≤3):(4*a+3-b)%4≠0∧1≤4*a+3-b∧(b=0→(4*a+3-b)%4=3):=by
 rewrite [LU h h2,Nat.add_mul_mod_self_left];rcases LA h h2 with rfl|rfl|rfl
 ·exact⟨by decide,Nat.le_trans (by decide) (Nat.le_add_right ..),fun _=>rfl⟩
 ·exact⟨by decide,Nat.le_trans (by decide) (Nat.le_add_right ..),fun e=>by cases e⟩
 ·exact⟨by decide,Nat.le_trans (by decide) (Nat.le_add_right ..),fun e=>by cases e⟩
theorem D1 {a b c:Nat} (h:¬a≥b) (h2:b≤c):(a+b)/2<c:=Nat.div_lt_of_lt_mul (Nat.mul_comm c 2▸LN h h2)
theorem D2 {a b:Nat} (h:b<3):(100*(a:Int)+(b:Int))%100=(b:Int):=by
 rewrite [Int.add_comm,Int.add_mul_emod_self_left];exact Int.emod_eq_of_lt (Int.natCast_nonneg b) (Int.ofNat_lt.mpr (Nat.lt_trans h (by decide)))
theorem LV {j:Int} (h1:j<2 ^ 40) (h2:-2 ^ 40<j):((-9223372036854775808≤j∧j<9223372036854775808)∧-9223372036854775808≤max j 0∧max j 0<9223372036854775808)∧(max j 0=0∨-9223372036854775808≤j∧j<9223372036854775808):=
 have a:j<9223372036854775808:=Int.lt_trans h1 (by decide)
 have b:-9223372036854775808≤j:=Int.le_of_lt (Int.lt_trans (by decide) h2)
 ⟨⟨⟨b,a⟩,Int.le_trans b (Int.le_max_left ..),Int.max_lt.mpr ⟨a,by decide⟩⟩,.inr ⟨b,a⟩⟩
theorem B4 {j:Int} (h:0<j) (h2:j<2 ^ 30):j.natAbs<2 ^ 30:=Int.ofNat_lt.mp (by rewrite [Int.natAbs_of_nonneg (Int.le_of_lt h)];exact h2)
theorem B5 {j:Int} (h:0<j):j.natAbs≠0:=fun e=>absurd h (by rewrite [Int.natAbs_eq_zero.mp e];decide)
theorem B6 {a b:Nat} (h:a<b) (h2:b≤2 ^ 30):(a:Int).natAbs<2 ^ 30:=by rewrite [Int.natAbs_natCast];exact Nat.lt_of_lt_of_le h h2
theorem B7 {u:Nat} (h:u<3):(4*((u:Int)+1)+16-1)/16*16=16:=by rcases LA h (Nat.le_refl 3)with rfl|rfl|rfl<;>rfl
local macro_rules (kind := Lean.Parser.Tactic.fail) | s => Cm s
local macro_rules (kind := Lean.Parser.Tactic.injection) | s => Cm s
local macro_rules (kind := Lean.Parser.Tactic.delta) | s => Cm s
local macro_rules (kind := Lean.Parser.Tactic.refine') | s => Cm s
local macro_rules (kind := Lean.Parser.Tactic.omega) | s => Cm s
local macro_rules (kind := Lean.Parser.Tactic.tacticErw___) | s => Cm s
local macro_rules (kind := Lean.Parser.Tactic.tacticNofun) | s => Cm s
local macro_rules | `(tactic| delta $x:ident $ys:ident* at *) => `(tactic| first | (revert $x $ys*; delta $x $ys*; set_option tactic.hygienic false in intros) | skip)
set_option genInjectivity true
inductive V where
 | none
 | bool (b:Bool)
 | int (i:Int)
 | str (s:Str)
 | tup (vs:List V)
 | lst (vs:List V)
 | dS (kvs:List (Str×V))
 | dI (kvs:List (Int×V))
 | obj (C:Addr) (kvs:List (Str×V))
 | rng (k:Int)
 | loc (a:Addr)
 deriving Nonempty
set_option genInjectivity false
set_option genInjectivity true
inductive bp where
 | lst (vs:List V)
 | dS (kvs:List (Str×V))
 | dI (kvs:List (Int×V))
 | inst (C dx:Addr)
 | cell (v:V)
 | cellU
 deriving Nonempty
set_option genInjectivity false
abbrev aS:=Addr→Option Obj
abbrev aj:=List (Addr×bp)
abbrev mD (items:Array Value) (n:Nat):Obj:={ cls:=.type "tuple",dict:=none,data:=.seq items n,slots:=#[] }
abbrev fu (items:Array Value) (n:Nat):Obj:={ cls:=.type "list",dict:=none,data:=.seq items n,slots:=#[] }
abbrev D8 (k:Int) (t u v:Tok):Obj:={ cls:=.type "range",dict:=none,data:=.fields #[.int 0 t,.int k u,.int 1 v],slots:=#[] }
section
variable {prog:Program} {w:World} {K:Type} [DecidableEq K] (knd:KeyKind prog w K)
def OD (o:Obj) (kvs:List (K×Value)):Prop:=
 o.ExactDict∧∃es ep,o.data=.dict es ep∧KeysOf knd es∧Pairs knd es.toList kvs∧(kvs.map (fun U=>U.1)).Nodup
theorem OD.at {o:Obj} {kvs:List (K×Value)} (x:OD knd o kvs) {h:Heap} {a:Addr} (e:h.get? a=some o):h.DictOf knd a kvs:=by
 obtain⟨x1,es,ep,x2,x3,x4,x5⟩:=x;exact⟨o,es,ep,e,x1,x2,x3,x4,x5⟩
theorem OD.of {h:Heap} {a:Addr} {kvs:List (K×Value)} (x:h.DictOf knd a kvs):∃o,h.get? a=some o∧OD knd o kvs:=by
 obtain⟨o,es,ep,e,x1,x2,x3,x4,x5⟩:=x;exact⟨o,e,x1,es,ep,x2,x3,x4,x5⟩
end
mutual
inductive VR (B:aS):V→Value→Prop
 | none:VR B .none .none
 | bool (b:Bool):VR B (.bool b) (.bool b)
 | int (i:Int) (t:Tok):VR B (.int i) (.int i t)
 | str (s:Str) (t:Tok):VR B (.str s) (.str s t)
 | loc (a:Addr):VR B (.loc a) (.ref a)
 | rng {a:Addr} {k:Int} {t u v:Tok}:B a=some (D8 k t u v)→VR B (.rng k) (.ref a)
 | tup {a:Addr} {vs:List V} {items:Array Value} {n:Nat}:B a=some (mD items n)→cf B vs items.toList→VR B (.tup vs) (.ref a)
 | lst {a:Addr} {vs:List V} {items:Array Value} {n:Nat}:B a=some (fu items n)→cf B vs items.toList→VR B (.lst vs) (.ref a)
 | dS {a:Addr} {o:Obj} {kvs:List (Str×V)} {ps:List (Str×Value)}:B a=some o→(a==sysModules)=false→OD (strKind S.prog S.w) o ps→ko B kvs ps→VR B (.dS kvs) (.ref a)
 | dI {a:Addr} {o:Obj} {kvs:List (Int×V)} {ps:List (Int×Value)}:B a=some o→(a==sysModules)=false→OD (intKind S.prog S.w) o ps→lj B kvs ps→VR B (.dI kvs) (.ref a)
 | obj {a C dx:Addr} {o:Obj} {kvs:List (Str×V)} {ps:List (Str×Value)}:B a=some (instObj C dx)→B dx=some o→OD (strKind S.prog S.w) o ps→ko B kvs ps→VR B (.obj C kvs) (.ref a)
inductive cf (B:aS):List V→List Value→Prop
 | nil:cf B [] []
 | cons {x:V} {y:Value} {xs:List V} {ys:List Value}:VR B x y→cf B xs ys→cf B (x::xs) (y::ys)
inductive ko (B:aS):List (Str×V)→List (Str×Value)→Prop
 | nil:ko B [] []
 | cons {k:Str} {x:V} {y:Value} {xs:List (Str×V)} {ys:List (Str×Value)}:VR B x y→ko B xs ys→ko B ((k,x)::xs) ((k,y)::ys)
inductive lj (B:aS):List (Int×V)→List (Int×Value)→Prop
 | nil:lj B [] []
 | cons {k:Int} {x:V} {y:Value} {xs:List (Int×V)} {ys:List (Int×Value)}:VR B x y→lj B xs ys→lj B ((k,x)::xs) ((k,y)::ys)
end
def bh (B B':aS):Prop:=∀a o,B a=some o→B' a=some o
theorem bh.refl (B:aS):bh B B:=fun U U e=>e
theorem bh.trans {B B' B'':aS} (x:bh B B') (y:bh B' B''):bh B B'':=fun a o e=>y a o (x a o e)
section
variable {prog:Program} {w:World} {B B':aS} (H:bh B B')
include H
theorem VR.mono {v:V} {x:Value} (h:VR B v x):VR B' v x:=
 VR.rec (motive_1:=fun v x U=>VR B' v x) (motive_2:=fun v x U=>cf B' v x) (motive_3:=fun v x U=>ko B' v x) (motive_4:=fun v x U=>lj B' v x)
  .none .bool .int .str .loc (fun e=>.rng (H _ _ e)) (fun e U r=>.tup (H _ _ e) r) (fun e U r=>.lst (H _ _ e) r) (fun e h o U r=>.dS (H _ _ e) h o r) (fun e h o U r=>.dI (H _ _ e) h o r) (fun e e' o U r=>.obj (H _ _ e) (H _ _ e') o r)
  .nil (fun U U a b=>.cons a b) .nil (fun U U a b=>.cons a b) .nil (fun U U a b=>.cons a b) h
theorem cf.mono {v:List V} {x:List Value} (h:cf B v x):cf B' v x:=
 cf.rec (motive_1:=fun v x U=>VR B' v x) (motive_2:=fun v x U=>cf B' v x) (motive_3:=fun v x U=>ko B' v x) (motive_4:=fun v x U=>lj B' v x)
  .none .bool .int .str .loc (fun e=>.rng (H _ _ e)) (fun e U r=>.tup (H _ _ e) r) (fun e U r=>.lst (H _ _ e) r) (fun e h o U r=>.dS (H _ _ e) h o r) (fun e h o U r=>.dI (H _ _ e) h o r) (fun e e' o U r=>.obj (H _ _ e) (H _ _ e') o r)
  .nil (fun U U a b=>.cons a b) .nil (fun U U a b=>.cons a b) .nil (fun U U a b=>.cons a b) h
theorem ko.mono {v:List (Str×V)} {x:List (Str×Value)} (h:ko B v x):ko B' v x:=
 ko.rec (motive_1:=fun v x U=>VR B' v x) (motive_2:=fun v x U=>cf B' v x) (motive_3:=fun v x U=>ko B' v x) (motive_4:=fun v x U=>lj B' v x)
  .none .bool .int .str .loc (fun e=>.rng (H _ _ e)) (fun e U r=>.tup (H _ _ e) r) (fun e U r=>.lst (H _ _ e) r) (fun e h o U r=>.dS (H _ _ e) h o r) (fun e h o U r=>.dI (H _ _ e) h o r) (fun e e' o U r=>.obj (H _ _ e) (H _ _ e') o r)
  .nil (fun U U a b=>.cons a b) .nil (fun U U a b=>.cons a b) .nil (fun U U a b=>.cons a b) h
theorem lj.mono {v:List (Int×V)} {x:List (Int×Value)} (h:lj B v x):lj B' v x:=
 lj.rec (motive_1:=fun v x U=>VR B' v x) (motive_2:=fun v x U=>cf B' v x) (motive_3:=fun v x U=>ko B' v x) (motive_4:=fun v x U=>lj B' v x)
  .none .bool .int .str .loc (fun e=>.rng (H _ _ e)) (fun e U r=>.tup (H _ _ e) r) (fun e U r=>.lst (H _ _ e) r) (fun e h o U r=>.dS (H _ _ e) h o r) (fun e h o U r=>.dI (H _ _ e) h o r) (fun e e' o U r=>.obj (H _ _ e) (H _ _ e') o r)
  .nil (fun U U a b=>.cons a b) .nil (fun U U a b=>.cons a b) .nil (fun U U a b=>.cons a b) h
end
@[elab_as_elim] theorem VR.iloc {B:aS} {a:Addr} {x:Value} {motive:Value→Prop} (h:VR B (.loc a) x) (f:motive (.ref a)):motive x:=by cases h;exact f
@[elab_as_elim] theorem VR.iint {B:aS} {i:Int} {x:Value} {motive:Value→Prop} (h:VR B (.int i) x) (f:∀t,motive (.int i t)):motive x:=by cases h;exact f _
@[elab_as_elim] theorem VR.istr {B:aS} {i:Str} {x:Value} {motive:Value→Prop} (h:VR B (.str i) x) (f:∀t,motive (.str i t)):motive x:=by cases h;exact f _
@[elab_as_elim] theorem VR.ibool {B:aS} {i:Bool} {x:Value} {motive:Value→Prop} (h:VR B (.bool i) x) (f:motive (.bool i)):motive x:=by cases h;exact f
@[elab_as_elim] theorem VR.inone {B:aS} {x:Value} {motive:Value→Prop} (h:VR B .none x) (f:motive .none):motive x:=by cases h;exact f
@[elab_as_elim] theorem cf.i0 {B:aS} {xs:List Value} {motive:List Value→Prop} (h:cf B [] xs) (f:motive []):motive xs:=by cases h;exact f
@[elab_as_elim] theorem cf.icons {B:aS} {v:V} {vs:List V} {xs:List Value} {motive:List Value→Prop} (h:cf B (v::vs) xs) (f:∀x ys,VR B v x→cf B vs ys→motive (x::ys)):motive xs:=by cases h with|cons a b=>exact f _ _ a b
section
variable {prog:Program} {w:World} {B:aS}
theorem cf.length {vs:List V} {xs:List Value} (h:cf B vs xs):vs.length=xs.length:=by
 induction vs generalizing xs with
 | nil=>cases h;rfl
 | cons v r ih=>cases h with|cons _ h=>simp[ih h]
theorem cf.get {vs:List V} {xs:List Value} (h:cf B vs xs) {i:Nat} {v:V} (e:vs[i]?=some v):∃x,xs[i]?=some x∧VR B v x:=by
 induction vs generalizing xs i with
 | nil=>simp at e
 | cons u r ih=>
  cases h with
  | cons h1 h2=>
   cases i with
   | zero=>simp at e;subst e;exact⟨_,rfl,h1⟩
   | succ i=>simp at e;simpa using ih h2 e
theorem cf.append {vs us:List V} {xs ys:List Value} (h:cf B vs xs) (h':cf B us ys):cf B (vs++us) (xs++ys):=by
 induction vs generalizing xs with
 | nil=>cases h;exact h'
 | cons v r ih=>cases h with|cons h1 h2=>exact .cons h1 (ih h2)
theorem cf.one {v:V} {x:Value} (h:VR B v x):cf B [v] [x]:=.cons h .nil
theorem cf.set {vs:List V} {xs:List Value} (h:cf B vs xs) {v:V} {x:Value} (hv:VR B v x) (i:Nat):cf B (vs.set i v) (xs.set i x):=by
 induction vs generalizing xs i with
 | nil=>cases h;simpa using cf.nil
 | cons u r ih=>
  cases h with
  | cons h1 h2=>cases i with
   | zero=>exact .cons hv h2
   | succ i=>exact .cons h1 (ih h2 i)
theorem cf.erase {vs:List V} {xs:List Value} (h:cf B vs xs) (i:Nat):cf B (vs.eraseIdx i) (xs.eraseIdx i):=by
 induction vs generalizing xs i with
 | nil=>cases h;simpa using cf.nil
 | cons u r ih=>
  cases h with
  | cons h1 h2=>cases i with
   | zero=>exact h2
   | succ i=>exact .cons h1 (ih h2 i)
theorem cf.take {vs:List V} {xs:List Value} (h:cf B vs xs) (i:Nat):cf B (vs.take i) (xs.take i):=by
 induction vs generalizing xs i with
 | nil=>cases h;simpa using cf.nil
 | cons u r ih=>
  cases h with
  | cons h1 h2=>cases i with
   | zero=>exact .nil
   | succ i=>exact .cons h1 (ih h2 i)
theorem ko.keys {vs:List (Str×V)} {xs:List (Str×Value)} (h:ko B vs xs):vs.map (fun U=>U.1)=xs.map (fun U=>U.1):=by
 induction vs generalizing xs with
 | nil=>cases h;rfl
 | cons v r ih=>cases h with|cons _ h=>simp[ih h]
theorem lj.keys {vs:List (Int×V)} {xs:List (Int×Value)} (h:lj B vs xs):vs.map (fun U=>U.1)=xs.map (fun U=>U.1):=by
 induction vs generalizing xs with
 | nil=>cases h;rfl
 | cons v r ih=>cases h with|cons _ h=>simp[ih h]
theorem ko.length {vs:List (Str×V)} {xs:List (Str×Value)} (h:ko B vs xs):vs.length=xs.length:=by
 have:=congrArg List.length h.keys;simpa using this
theorem lj.length {vs:List (Int×V)} {xs:List (Int×Value)} (h:lj B vs xs):vs.length=xs.length:=by
 have:=congrArg List.length h.keys;simpa using this
end
def aB {K:Type} [DecidableEq K]:List (K×V)→K→Option V
 | [],_=>none
 | (k,v)::r,x=>if k=x then some v else aB r x
theorem bJ {K:Type} [DecidableEq K] {x:K}:aB ([]:List (K×V)) x=none:=rfl
theorem b0 {K:Type} [DecidableEq K] {k x:K} {v:V} {r:List (K×V)}:aB ((k,v)::r) x=if k=x then some v else aB r x:=rfl
def bj {K:Type} [DecidableEq K]:List (K×V)→K→V→List (K×V)
 | [],x,v=>[(x,v)]
 | (k,u)::r,x,v=>if k=x then(k,v)::r else(k,u)::bj r x v
theorem cw {K:Type} [DecidableEq K] {x:K} {v:V}:bj ([]:List (K×V)) x v=[(x,v)]:=rfl
theorem bn {K:Type} [DecidableEq K] {k x:K} {u v:V} {r:List (K×V)}:bj ((k,u)::r) x v=if k=x then(k,v)::r else(k,u)::bj r x v:=rfl
section
variable {prog:Program} {w:World} {B:aS}
theorem fB {K:Type} [DecidableEq K] (k:K) (y:Value) (r:List (K×Value)) (x:K):valueAt ((k,y)::r) x=if k=x then some y else valueAt r x:=by
 unfold valueAt;erw[List.find?_cons];by_cases h:k=x<;>simp[h]
theorem iL {K:Type} [DecidableEq K] {k x:K} (y:Value) {r:List (K×Value)} (v:Value) (hk:k∉r.map (fun U=>U.1)) (h:k=x):stored ((k,y)::r) x v=(k,v)::r:=by
 subst h;unfold stored;simp only[List.any_cons,decide_true,Bool.true_or,if_true,List.map_cons];erw[map_store_of_not_mem _ _ _ hk]
theorem iK {K:Type} [DecidableEq K] {k x:K} (y:Value) (r:List (K×Value)) (v:Value) (h:¬k=x):stored ((k,y)::r) x v=(k,y)::stored r x v:=by
 unfold stored;simp only[List.any_cons,h,decide_false,Bool.false_or,List.map_cons,if_false];split<;>simp
theorem ko.look {vs:List (Str×V)} {xs:List (Str×Value)} (h:ko B vs xs) {k:Str} {v:V} (e:aB vs k=some v):∃x,valueAt xs k=some x∧VR B v x:=by
 induction vs generalizing xs with
 | nil=>cases e
 | cons p r ih=>
  cases h with
  | @cons k' x y _ ys h1 h2=>
   erw[fB];simp only[bJ,b0]at e;by_cases hk:k'=k
   ·simp only[hk,if_true]at e ⊢;cases e;exact⟨_,rfl,h1⟩
   ·simp only[hk,if_false]at e ⊢;exact ih h2 e
theorem ko.look_none {vs:List (Str×V)} {xs:List (Str×Value)} (h:ko B vs xs) {k:Str} (e:aB vs k=none):valueAt xs k=none:=by
 induction vs generalizing xs with
 | nil=>cases h;rfl
 | cons p r ih=>
  cases h with
  | @cons k' x y _ ys h1 h2=>
   erw[fB];simp only[bJ,b0]at e;by_cases hk:k'=k
   ·simp[hk]at e
   ·simp only[hk,if_false]at e ⊢;exact ih h2 e
theorem lj.look {vs:List (Int×V)} {xs:List (Int×Value)} (h:lj B vs xs) {k:Int} {v:V} (e:aB vs k=some v):∃x,valueAt xs k=some x∧VR B v x:=by
 induction vs generalizing xs with
 | nil=>cases e
 | cons p r ih=>
  cases h with
  | @cons k' x y _ ys h1 h2=>
   erw[fB];simp only[bJ,b0]at e;by_cases hk:k'=k
   ·simp only[hk,if_true]at e ⊢;cases e;exact⟨_,rfl,h1⟩
   ·simp only[hk,if_false]at e ⊢;exact ih h2 e
theorem lj.look_none {vs:List (Int×V)} {xs:List (Int×Value)} (h:lj B vs xs) {k:Int} (e:aB vs k=none):valueAt xs k=none:=by
 induction vs generalizing xs with
 | nil=>cases h;rfl
 | cons p r ih=>
  cases h with
  | @cons k' x y _ ys h1 h2=>
   erw[fB];simp only[bJ,b0]at e;by_cases hk:k'=k
   ·simp[hk]at e
   ·simp only[hk,if_false]at e ⊢;exact ih h2 e
theorem ko.stored {vs:List (Str×V)} {xs:List (Str×Value)} (h:ko B vs xs) (hn:(xs.map (fun U=>U.1)).Nodup) {k:Str} {v:V} {x:Value} (hv:VR B v x):ko B (bj vs k v) (stored xs k x):=by
 induction vs generalizing xs with
 | nil=>cases h;exact .cons hv .nil
 | cons p r ih=>
  cases h with
  | @cons k' u y _ ys h1 h2=>
   simp only[List.map_cons,List.nodup_cons]at hn;simp only[cw,bn];by_cases hk:k'=k
   ·erw[iL _ _ hn.1 hk,if_pos hk];exact .cons hv h2
   ·erw[iK _ _ _ hk,if_neg hk];exact .cons h1 (ih h2 hn.2)
theorem lj.stored {vs:List (Int×V)} {xs:List (Int×Value)} (h:lj B vs xs) (hn:(xs.map (fun U=>U.1)).Nodup) {k:Int} {v:V} {x:Value} (hv:VR B v x):lj B (bj vs k v) (stored xs k x):=by
 induction vs generalizing xs with
 | nil=>cases h;exact .cons hv .nil
 | cons p r ih=>
  cases h with
  | @cons k' u y _ ys h1 h2=>
   simp only[List.map_cons,List.nodup_cons]at hn;simp only[cw,bn];by_cases hk:k'=k
   ·erw[iL _ _ hn.1 hk,if_pos hk];exact .cons hv h2
   ·erw[iK _ _ _ hk,if_neg hk];exact .cons h1 (ih h2 hn.2)
end
def CR (B:aS) (o:Obj):bp→Prop
 | .lst vs=>∃items n,o=fu items n∧cf B vs items.toList
 | .dS kvs=>∃ps,OD (strKind S.prog S.w) o ps∧ko B kvs ps
 | .dI kvs=>∃ps,OD (intKind S.prog S.w) o ps∧lj B kvs ps
 | .inst C dx=>o=instObj C dx
 | .cell v=>∃x,o.data=.cell (some x)∧VR B v x
 | .cellU=>o.data=.cell none
theorem CR.mono {B B':aS} (H:bh B B') {o:Obj}:∀{c:bp},CR B o c→CR B' o c
 | .lst _,⟨items,n,e,r⟩=>⟨items,n,e,cf.mono H r⟩
 | .dS _,⟨ps,e,r⟩=>⟨ps,e,ko.mono H r⟩
 | .dI _,⟨ps,e,r⟩=>⟨ps,e,lj.mono H r⟩
 | .inst _ _,e=>e
 | .cell _,⟨x,e,r⟩=>⟨x,e,VR.mono H r⟩
 | .cellU,e=>e
inductive Sl where
 | un
 | val (v:V)
 | cel (c:Addr)
 | fre (c:Addr)
 | glb
 deriving Nonempty
abbrev aI:=List (Str×Sl)
def jS (B:aS) (env:Env) (m:Str→Option Value) (x:Str):Sl→Prop
 | .un=>env.kindOf x=some .local
 | .val v=>env.kindOf x=some .local∧∃y,m x=some y∧VR B v y
 | .cel c=>env.kindOf x=some .cell∧env.cells.lookup x=some c
 | .fre c=>env.kindOf x=some .free∧env.cells.lookup x=some c
 | .glb=>env.kindOf x=some .globalImplicit
structure BJ (env:Env):Prop where
 kind:env.scope.kind=.function
 glob:env.globals=mainGlobals
 blt:env.builtins=builtinsNs
structure pw (B:aS) (env:Env) (m:Str→Option Value) (η:aI):Prop where
 slots:∀p∈η,jS B env m p.1 p.2
 nd:(η.map (fun U=>U.1)).Nodup
 nodbg:∀p∈η,(p.1==("__debug__" :Str))=false
structure aK (B P:aS) (σ:aj) (s:Shared):Prop where
 sub:∀a o,S.h1.get? a=some o→B a=some o
 base:∀a o,B a=some o→s.heap.get? a=some o
 prot:∀a o,P a=some o→s.heap.get? a=some o
 disj:∀a o,P a=some o→B a=none
 sto:∀p∈σ,B p.1=none∧P p.1=none∧∃o,s.heap.get? p.1=some o∧CR B o p.2
 nd:(sysModules::σ.map (fun U=>U.1)).Nodup
 gens:s.gens=#[]
 os:s.os=S.os
def put (P:aS) (L:Addr) (o:Obj):aS:=fun a=>if a=L then some o else P a
def zV (o:Obj) (m:Str→Option Value):Prop:=∃es ep,o.data=.dict es ep∧StrKeys es∧∀x,nsFind es x=m x
structure et (B P:aS) (env:Env) (η:aI) (σ:aj) (s:Shared):Prop where
 out:∃oL m,aK B (put P env.locals oL) σ s∧zV oL m∧pw B env m η
 pl:P env.locals=none
 ok:BJ env
structure iD (A:Around) (n:Nat):Prop where
 hand:A.handled=none
 depth:A.depth+4*n≤980
 units:A.units+40*n≤9800
def TE (n:Nat) (e:Expr) (η:aI) (σ:aj) (Q:V→aj→Prop):Prop:=
 ∀A B P env s (R:Value→Shared→Prop),iD A n→et B P env η σ s→
  (∀v σ' x s' B',Q v σ'→bh B B'→et B' P env η σ' s'→VR B' v x→R x s')→wpAny S.M A (eval e env) R ft s
def rq (n:Nat) (es:List Expr) (η:aI) (σ:aj) (Q:List V→aj→Prop):Prop:=
 ∀A B P env s pos (R:List Value→Shared→Prop),iD A n→et B P env η σ s→
  (∀vs σ' xs s' B',Q vs σ'→bh B B'→et B' P env η σ' s'→cf B' vs xs→R xs s')→wpAny S.M A (spliced (backTo pos (starEach es env))) R ft s
def TB (n:Nat) (e:Expr) (η:aI) (σ:aj) (Q:Bool→aj→Prop):Prop:=
 ∀A B P env s (R:Bool→Shared→Prop),iD A n→et B P env η σ s→
  (∀b σ' s' B',Q b σ'→bh B B'→et B' P env η σ' s'→R b s')→wpAny S.M A (isTrue e env (eval e env)) R ft s
def T1 (n:Nat) (f:Value→Sem Value) (a:V) (σ:aj) (Q:V→aj→Prop):Prop:=
 ∀A B P s x (R:Value→Shared→Prop),iD A n→aK B P σ s→VR B a x→
  (∀v σ' y s' B',Q v σ'→bh B B'→aK B' P σ' s'→VR B' v y→R y s')→wpAny S.M A (f x) R ft s
def T2 (n:Nat) (f:Value→Value→Sem Value) (a b:V) (σ:aj) (Q:V→aj→Prop):Prop:=
 ∀A B P s x y (R:Value→Shared→Prop),iD A n→aK B P σ s→VR B a x→VR B b y→
  (∀v σ' z s' B',Q v σ'→bh B B'→aK B' P σ' s'→VR B' v z→R z s')→wpAny S.M A (f x y) R ft s
def TL (n:Nat) (f:List Value→Sem Value) (as:List V) (σ:aj) (Q:V→aj→Prop):Prop:=
 ∀A B P s xs (R:Value→Shared→Prop),iD A n→aK B P σ s→cf B as xs→
  (∀v σ' z s' B',Q v σ'→bh B B'→aK B' P σ' s'→VR B' v z→R z s')→wpAny S.M A (f xs) R ft s
def T3 (n:Nat) (f:Value→Value→Value→Sem Unit) (a b c:V) (σ:aj) (Q:aj→Prop):Prop:=
 ∀A B P s x y z (R:Unit→Shared→Prop),iD A n→aK B P σ s→VR B a x→VR B b y→VR B c z→
  (∀σ' s' B',Q σ'→bh B B'→aK B' P σ' s'→R () s')→wpAny S.M A (f x y z) R ft s
inductive Fl where
 | next|brk|cont
 | ret (v:V)
 deriving Nonempty
def L4 (B:aS):Fl→Flow→Prop
 | .next,.next=>True
 | .brk,.brk=>True
 | .cont,.cont=>True
 | .ret v,.ret x=>VR B v x
 | _,_=>False
def TS (n:Nat) (st:Stmt) (η:aI) (σ:aj) (Q:Fl→aI→aj→Prop):Prop:=
 ∀A B P env s (R:Flow→Shared→Prop),iD A n→et B P env η σ s→
  (∀f η' σ' x s' B',Q f η' σ'→bh B B'→et B' P env η' σ' s'→L4 B' f x→R x s')→wpAny S.M A (exec st env) R ft s
def dl (n:Nat) (sts:List Stmt) (η:aI) (σ:aj) (Q:Fl→aI→aj→Prop):Prop:=
 ∀A B P env s (R:Flow→Shared→Prop),iD A n→et B P env η σ s→
  (∀f η' σ' x s' B',Q f η' σ'→bh B B'→et B' P env η' σ' s'→L4 B' f x→R x s')→wpAny S.M A (execs sts env) R ft s
def TA (n:Nat) (t:Expr) (v:V) (η:aI) (σ:aj) (Q:aI→aj→Prop):Prop:=
 ∀A B P env s x (R:Unit→Shared→Prop),iD A n→et B P env η σ s→VR B v x→
  (∀η' σ' s' B',Q η' σ'→bh B B'→et B' P env η' σ' s'→R () s')→wpAny S.M A (assign t env x) R ft s
theorem av (P:aS) (L:Addr) (o:Obj):put P L o L=some o:=by simp[put]
theorem aD {P:aS} {L a:Addr} {o:Obj} (h:a≠L):put P L o a=P a:=by simp[put,h]
theorem zV.at {o:Obj} {m:Str→Option Value} (x:zV o m) {h:Heap} {a:Addr} (e:h.get? a=some o):h.Ns a m:=by
 obtain⟨es,ep,x1,x2,x3⟩:=x;exact⟨o,es,ep,e,x1,x2,x3⟩
theorem zV.of {m:Str→Option Value} {h:Heap} {a:Addr} (x:h.Ns a m):∃o,h.get? a=some o∧zV o m:=by
 delta m h a x at ⊢;obtain⟨o,es,ep,e,x1,x2,x3⟩:=x;exact⟨o,e,es,ep,x1,x2,x3⟩
section
variable {B P:aS} {σ:aj} {s:Shared}
theorem aK.h1k (I:aK B P σ s):∀a o,S.h1.get? a=some o→s.heap.get? a=some o:=fun a o e=>I.base a o (I.sub a o e)
theorem aK.kin (I:aK B P σ s):S.K.In s.heap:=S.kin.keeps I.h1k
theorem aK.lim (I:aK B P σ s):s.heap.NoLimit:=S.lim.keeps I.h1k
theorem aK.keeps (I:aK B P σ s) {h':Heap} {t:Nat} {d:Drawn} (k:∀b o,s.heap.get? b=some o→h'.get? b=some o):
 aK B P σ { s with heap:=h',toks:=t,drawn:=d } where
 sub:=I.sub
 base:=fun a o e=>k _ _ (I.base a o e)
 prot:=fun a o e=>k _ _ (I.prot a o e)
 disj:=I.disj
 sto:=fun p hp=>let ⟨x,y,o,e,c⟩:=I.sto p hp;⟨x,y,o,k _ _ e,c⟩
 nd:=I.nd
 gens:=I.gens
 os:=I.os
theorem aK.toks (I:aK B P σ s) (t:Nat):aK B P σ { s with toks:=t }:=⟨I.sub,I.base,I.prot,I.disj,I.sto,I.nd,I.gens,I.os⟩
theorem aK.nd' (I:aK B P σ s):(σ.map (fun U=>U.1)).Nodup:=(List.nodup_cons.mp I.nd).2
theorem aK.sysN (I:aK B P σ s) {p:Addr×bp} (h:p∈σ):p.1≠sysModules:=fun e=>(List.nodup_cons.mp I.nd).1 (by erw[←e];exact List.mem_map.mpr ⟨p,h,rfl⟩)
theorem aK.freshS (I:aK B P σ s):s.heap.objs.size≠sysModules:=fun e=>by
 obtain⟨a,o,h1,h2⟩:=S.sysm;have:=Heap.lt_size (I.h1k _ _ h2)
 rw[e]at this;exact absurd this (Nat.not_lt.mpr (Nat.le_of_lt h1))
theorem aK.live (I:aK B P σ s) {p:Addr×bp} (h:p∈σ):p.1<s.heap.objs.size:=let ⟨_,_,_,e,_⟩:=I.sto p h;Heap.lt_size e
theorem aK.fresh (I:aK B P σ s):B s.heap.objs.size=none∧P s.heap.objs.size=none∧∀p∈σ,p.1≠s.heap.objs.size:=by
 refine⟨?_,?_,fun p hp e=>absurd (I.live hp) (by erw[e];exact Nat.lt_irrefl _)⟩
 ·cases q:B s.heap.objs.size with
  | none=>rfl
  | some o=>exact absurd (Heap.lt_size (I.base _ _ q)) (Nat.lt_irrefl _)
 ·cases q:P s.heap.objs.size with
  | none=>rfl
  | some o=>exact absurd (Heap.lt_size (I.prot _ _ q)) (Nat.lt_irrefl _)
theorem jB {B:aS} {a:Addr} {o:Obj} (h:B a=none):bh B (put B a o):=fun b ob e=>by
 by_cases q:b=a
 ·rw[q,h]at e;cases e
 ·erw[aD q];exact e
theorem aK.base_put (I:aK B P σ s) {h':Heap} {t:Nat} {a:Addr} {o:Obj} (k:∀b o,s.heap.get? b=some o→h'.get? b=some o)
 (ha:B a=none) (hp:P a=none) (hs:∀p∈σ,p.1≠a) (e:h'.get? a=some o):aK (put B a o) P σ { s with heap:=h',toks:=t } where
 sub:=fun b ob eb=>jB ha _ _ (I.sub b ob eb)
 base:=fun b ob eb=>by
  by_cases q:b=a
  ·subst q;rw[av]at eb;cases eb;exact e
  ·rw[aD q]at eb;exact k _ _ (I.base _ _ eb)
 prot:=fun b ob eb=>k _ _ (I.prot b ob eb)
 disj:=fun b ob eb=>by
  by_cases q:b=a
  ·rw[q,hp]at eb;cases eb
  ·erw[aD q];exact I.disj b ob eb
 sto:=fun p hm=>by
  obtain⟨x,y,ob,eb,c⟩:=I.sto p hm
  exact⟨by erw[aD (hs p hm)];exact x,y,ob,k _ _ eb,c.mono (jB ha)⟩
 nd:=I.nd
 gens:=I.gens
 os:=I.os
theorem aK.sto_put (I:aK B P σ s) {h':Heap} {t:Nat} {a:Addr} {o:Obj} {c:bp} (k:∀b o,s.heap.get? b=some o→h'.get? b=some o)
 (ha:B a=none) (hp:P a=none) (hs:∀p∈σ,p.1≠a) (hq:a≠sysModules) (e:h'.get? a=some o) (hc:CR B o c):aK B P ((a,c)::σ) { s with heap:=h',toks:=t } where
 sub:=I.sub
 base:=fun b ob eb=>k _ _ (I.base _ _ eb)
 prot:=fun b ob eb=>k _ _ (I.prot b ob eb)
 disj:=I.disj
 sto:=fun p hm=>by
  rcases List.mem_cons.mp hm with rfl|hm
  ·exact⟨ha,hp,o,e,hc⟩
  ·obtain⟨x,y,ob,eb,c⟩:=I.sto p hm
   exact⟨x,y,ob,k _ _ eb,c⟩
 nd:=by
  erw[List.map_cons]
  refine(List.Perm.nodup_iff (List.Perm.swap _ _ _)).mpr ?_
  erw[List.nodup_cons]
  exact⟨fun h=>by
   rcases List.mem_cons.mp h with e|h
   ·exact hq e
   ·obtain⟨p,hp,e⟩:=List.mem_map.mp h;exact hs p hp e,I.nd⟩
 gens:=I.gens
 os:=I.os
theorem aK.push_sto (I:aK B P σ s) {o:Obj} {c:bp} (hf:o.isFreed=false) (hc:CR B o c):aK B P ((s.heap.objs.size,c)::σ) { s with heap:=s.heap.push o }:=
 I.sto_put (t:=s.toks) (fun U U e=>Heap.get?_push_of_some _ e) I.fresh.1 I.fresh.2.1 I.fresh.2.2 I.freshS (Heap.get?_push_size _ hf) hc
theorem aK.push_base (I:aK B P σ s) {o:Obj} (hf:o.isFreed=false):aK (put B s.heap.objs.size o) P σ { s with heap:=s.heap.push o }:=
 I.base_put (t:=s.toks) (fun U U e=>Heap.get?_push_of_some _ e) I.fresh.1 I.fresh.2.1 I.fresh.2.2 (Heap.get?_push_size _ hf)
inductive fK:aj→Addr→bp→bp→aj→Prop
 | here {a:Addr} {c c':bp} {σ:aj}:fK ((a,c)::σ) a c c' ((a,c')::σ)
 | there {p:Addr×bp} {a:Addr} {c c':bp} {σ σ':aj}:fK σ a c c' σ'→fK (p::σ) a c c' (p::σ')
theorem fK.mem {σ σ':aj} {a:Addr} {c c':bp} (u:fK σ a c c' σ'):(a,c)∈σ:=by
 induction u with
 | here=>exact .head _
 | there _ ih=>exact .tail _ ih
theorem fK.keys {σ σ':aj} {a:Addr} {c c':bp} (u:fK σ a c c' σ'):σ'.map (fun U=>U.1)=σ.map (fun U=>U.1):=by
 induction u with
 | here=>rfl
 | there _ ih=>simp[ih]
theorem fK.mem' {σ σ':aj} {a:Addr} {c c':bp} (u:fK σ a c c' σ') (hn:(σ.map (fun U=>U.1)).Nodup) {p:Addr×bp} (h:p∈σ'):p=(a,c')∨(p∈σ∧p.1≠a):=by
 induction u with
 | @here a c c' σ=>
  rcases List.mem_cons.mp h with rfl|h
  ·exact .inl rfl
  ·simp only[List.map_cons,List.nodup_cons]at hn;exact .inr ⟨.tail _ h,fun e=>hn.1 (e▸List.mem_map_of_mem h)⟩
 | @there q a c c' σ σ' u ih=>
  simp only[List.map_cons,List.nodup_cons]at hn;rcases List.mem_cons.mp h with rfl|h
  ·exact .inr ⟨.head _,fun e=>hn.1 (e▸List.mem_map_of_mem u.mem)⟩
  ·rcases ih hn.2 h with q|⟨q,r⟩
   ·exact .inl q
   ·exact .inr ⟨.tail _ q,r⟩
theorem aK.upd (I:aK B P σ s) {σ':aj} {a:Addr} {c c':bp} (u:fK σ a c c' σ') {h':Heap} {t:Nat} {o':Obj} (hs:Heap.SameBut a s.heap h') (e:h'.get? a=some o') (hc:CR B o' c'):
 aK B P σ' { s with heap:=h',toks:=t }:=by
 obtain⟨x,y,_⟩:=I.sto _ u.mem;have k:∀b o,b≠a→s.heap.get? b=some o→h'.get? b=some o:=fun b o q e=>(hs.2 b q).trans e
 refine⟨I.sub,fun b ob eb=>k _ _ (fun q=>?_) (I.base _ _ eb),fun b ob eb=>k _ _ (fun q=>?_) (I.prot _ _ eb),I.disj,fun p hm=>?_,by erw[u.keys];exact I.nd,I.gens,I.os⟩
 ·rw[q,x]at eb;cases eb
 ·rw[q,y]at eb;cases eb
 ·rcases u.mem' I.nd' hm with rfl|⟨hm,hne⟩
  ·exact⟨x,y,o',e,hc⟩
  ·obtain⟨x1,y1,o1,e1,c1⟩:=I.sto p hm;exact⟨x1,y1,o1,k _ _ hne e1,c1⟩
inductive oT:aj→Addr→bp→aj→Prop
 | here {a:Addr} {c:bp} {σ:aj}:oT ((a,c)::σ) a c σ
 | there {p:Addr×bp} {a:Addr} {c:bp} {σ σ':aj}:oT σ a c σ'→oT (p::σ) a c (p::σ')
theorem oT.mem {σ σ':aj} {a:Addr} {c:bp} (u:oT σ a c σ'):(a,c)∈σ:=by
 induction u with
 | here=>exact .head _
 | there _ ih=>exact .tail _ ih
theorem oT.sub {σ σ':aj} {a:Addr} {c:bp} (u:oT σ a c σ'):List.Sublist σ' σ:=by
 induction u with
 | here=>exact List.sublist_cons_self _ _
 | there _ ih=>exact ih.cons_cons _
theorem oT.mem' {σ σ':aj} {a:Addr} {c:bp} (u:oT σ a c σ') (hn:(σ.map (fun U=>U.1)).Nodup) {p:Addr×bp} (h:p∈σ'):p∈σ∧p.1≠a:=by
 induction u with
 | @here a c σ=>
  simp only[List.map_cons,List.nodup_cons]at hn;exact⟨.tail _ h,fun e=>hn.1 (e▸List.mem_map_of_mem h)⟩
 | @there q a c σ σ' u ih=>
  simp only[List.map_cons,List.nodup_cons]at hn;rcases List.mem_cons.mp h with rfl|h
  ·exact⟨.head _,fun e=>hn.1 (e▸List.mem_map_of_mem u.mem)⟩
  ·exact⟨.tail _ (ih hn.2 h).1,(ih hn.2 h).2⟩
theorem aK.drop (I:aK B P σ s) {σ':aj} (u:List.Sublist σ' σ):aK B P σ' s:=
 ⟨I.sub,I.base,I.prot,I.disj,fun p hp=>I.sto p (u.subset hp),I.nd.sublist ((u.map _).cons₂ _),I.gens,I.os⟩
theorem aK.freeze (I:aK B P σ s) {σ':aj} {a:Addr} {c:bp} (u:oT σ a c σ'):∃o,bh B (put B a o)∧CR B o c∧aK (put B a o) P σ' s:=by
 obtain⟨x,y,o,e,hc⟩:=I.sto _ u.mem;refine⟨o,jB x,hc,?_⟩;exact(I.drop u.sub).base_put (t:=s.toks) (h':=s.heap) (fun U U e=>e) x y (fun p hp=>(u.mem' I.nd' hp).2) e
theorem aK.reput {L:Addr} {o o':Obj} (I:aK B (put P L o) σ s) {h':Heap} {t:Nat} (hs:Heap.SameBut L s.heap h') (e:h'.get? L=some o'):aK B (put P L o') σ { s with heap:=h',toks:=t }:=by
 delta B P σ s L o o' I h' t hs e at ⊢;have k:∀b o,b≠L→s.heap.get? b=some o→h'.get? b=some o:=fun b o q e=>(hs.2 b q).trans e
 have bL:B L=none:=I.disj L o (av ..)
 refine⟨I.sub,fun b ob eb=>k _ _ (fun q=>?_) (I.base _ _ eb),fun b ob eb=>?_,fun b ob eb=>?_,fun p hm=>?_,I.nd,I.gens,I.os⟩
 ·rw[q,bL]at eb;cases eb
 ·by_cases q:b=L
  ·subst q;rw[av]at eb;cases eb;exact e
  ·rw[aD q]at eb;exact k _ _ q (I.prot b ob (by erw[aD q];exact eb))
 ·by_cases q:b=L
  ·erw[q];exact bL
  ·rw[aD q]at eb;exact I.disj b ob (by erw[aD q];exact eb)
 ·obtain⟨x,y,o1,e1,c1⟩:=I.sto p hm;have q:p.1≠L:=fun q=>by rw[q,av]at y;cases y
  exact⟨x,by rw[aD q]at y ⊢;exact y,o1,k _ _ q e1,c1⟩
end
section
variable {B B' P:aS} {env:Env} {m:Str→Option Value} {η:aI}
theorem jS.mono (H:bh B B') {x:Str}:∀{sl:Sl},jS B env m x sl→jS B' env m x sl
 | .un,h=>h
 | .val _,⟨k,y,e,r⟩=>⟨k,y,e,VR.mono H r⟩
 | .cel _,h=>h
 | .fre _,h=>h
 | .glb,h=>h
theorem pw.mono (H:bh B B') (x:pw B env m η):pw B' env m η:=⟨fun p hp=>(x.slots p hp).mono H,x.nd,x.nodbg⟩
end
section
variable {n:Nat}
theorem et.lift {B P:aS} {env:Env} {η:aI} {σ:aj} {s:Shared} (I:et B P env η σ s):
 ∃oL,aK B (put P env.locals oL) σ s∧∀B' σ' s',bh B B'→aK B' (put P env.locals oL) σ' s'→et B' P env η σ' s':=by
 obtain⟨⟨oL,m,I0,N,E⟩,pl,ok⟩:=I;exact⟨oL,I0,fun B' σ' s' H I'=>⟨⟨oL,m,I',N,E.mono H⟩,pl,ok⟩⟩
theorem et.inv0 {B P:aS} {env:Env} {η:aI} {σ:aj} {s:Shared} (I:et B P env η σ s):∃P',aK B P' σ s:=let ⟨_,I0,_⟩:=I.lift;⟨_,I0⟩
theorem et.keeps {B P:aS} {env:Env} {η:aI} {σ:aj} {s:Shared} (I:et B P env η σ s) {h':Heap} {t:Nat} {d:Drawn} (k:∀b o,s.heap.get? b=some o→h'.get? b=some o):et B P env η σ { s with heap:=h',toks:=t,drawn:=d }:=by
 obtain⟨oL,I0,k'⟩:=I.lift;exact k' _ _ _ (bh.refl _) (I0.keeps k)
theorem et.toks {B P:aS} {env:Env} {η:aI} {σ:aj} {s:Shared} (I:et B P env η σ s) (t:Nat):et B P env η σ { s with toks:=t }:=I.keeps fun U U e=>e
theorem T1.lift {f:Value→Sem Value} {a:V} {σ:aj} {Q:V→aj→Prop} (h:T1 n f a σ Q) {A:Around} {B P:aS} {env:Env} {η:aI} {s:Shared} {x:Value} {R:Value→Shared→Prop}
 (hA:iD A n) (I:et B P env η σ s) (hx:VR B a x)
 (k:∀v σ' y s' B',Q v σ'→bh B B'→et B' P env η σ' s'→VR B' v y→R y s'):wpAny S.M A (f x) R ft s:=by
 obtain⟨oL,I0,L⟩:=I.lift
 exact h A B _ s x R hA I0 hx fun v σ' y s' B' q H I' hy=>k v σ' y s' B' q H (L _ _ _ H I') hy
theorem T2.lift {f:Value→Value→Sem Value} {a b:V} {σ:aj} {Q:V→aj→Prop} (h:T2 n f a b σ Q) {A:Around} {B P:aS} {env:Env} {η:aI} {s:Shared} {x y:Value} {R:Value→Shared→Prop}
 (hA:iD A n) (I:et B P env η σ s) (hx:VR B a x) (hy:VR B b y)
 (k:∀v σ' y s' B',Q v σ'→bh B B'→et B' P env η σ' s'→VR B' v y→R y s'):wpAny S.M A (f x y) R ft s:=by
 obtain⟨oL,I0,L⟩:=I.lift
 exact h A B _ s x y R hA I0 hx hy fun v σ' y s' B' q H I' hy=>k v σ' y s' B' q H (L _ _ _ H I') hy
theorem TL.lift {f:List Value→Sem Value} {as:List V} {σ:aj} {Q:V→aj→Prop} (h:TL n f as σ Q) {A:Around} {B P:aS} {env:Env} {η:aI} {s:Shared} {xs:List Value} {R:Value→Shared→Prop}
 (hA:iD A n) (I:et B P env η σ s) (hx:cf B as xs)
 (k:∀v σ' y s' B',Q v σ'→bh B B'→et B' P env η σ' s'→VR B' v y→R y s'):wpAny S.M A (f xs) R ft s:=by
 obtain⟨oL,I0,L⟩:=I.lift
 exact h A B _ s xs R hA I0 hx fun v σ' y s' B' q H I' hy=>k v σ' y s' B' q H (L _ _ _ H I') hy
theorem T3.lift {f:Value→Value→Value→Sem Unit} {a b c:V} {σ:aj} {Q:aj→Prop} (h:T3 n f a b c σ Q) {A:Around} {B P:aS} {env:Env} {η:aI} {s:Shared} {x y z:Value} {R:Unit→Shared→Prop}
 (hA:iD A n) (I:et B P env η σ s) (hx:VR B a x) (hy:VR B b y) (hz:VR B c z)
 (k:∀σ' s' B',Q σ'→bh B B'→et B' P env η σ' s'→R () s'):wpAny S.M A (f x y z) R ft s:=by
 obtain⟨oL,I0,L⟩:=I.lift
 exact h A B _ s x y z R hA I0 hx hy hz fun σ' s' B' q H I'=>k σ' s' B' q H (L _ _ _ H I')
end
inductive gx:aI→Str→Sl→Prop
 | here {x:Str} {v:Sl} {η:aI}:gx ((x,v)::η) x v
 | there {p:Str×Sl} {x:Str} {v:Sl} {η:aI}:gx η x v→gx (p::η) x v
theorem gx.mem {η:aI} {x:Str} {v:Sl} (h:gx η x v):(x,v)∈η:=by
 induction h with
 | here=>exact .head _
 | there _ ih=>exact .tail _ ih
inductive At:aj→Addr→bp→Prop
 | here {a:Addr} {c:bp} {σ:aj}:At ((a,c)::σ) a c
 | there {p:Addr×bp} {a:Addr} {c:bp} {σ:aj}:At σ a c→At (p::σ) a c
theorem At.mem {σ:aj} {a:Addr} {c:bp} (h:At σ a c):(a,c)∈σ:=by
 induction h with
 | here=>exact .head _
 | there _ ih=>exact .tail _ ih
section
variable {n:Nat} {η:aI} {σ:aj} {Q:V→aj→Prop}
theorem ut {x:Str} {pos:Pos} {v:V} (h:gx η x (.val v)) (q:Q v σ):TE n (.Name x pos) η σ Q:=fun A B P env s R hA I k=>by
 obtain ⟨⟨oL,m,I0,N,E⟩,pl,ok⟩:=id I;obtain ⟨hk,y,hy,hv⟩:=E.slots _ h.mem;exact wpAny_Name (wpAny_loadName_local ok.kind hk (N.at (I0.prot _ _ (av ..))) hy (k v σ y s B q (bh.refl _) I hv)) (E.nodbg _ h.mem)
theorem bw {x:Str} {pos:Pos} {c:Addr} {v:V} (h:gx η x (.cel c)) (ha:At σ c (.cell v)) (q:Q v σ):TE n (.Name x pos) η σ Q:=fun A B P env s R hA I k=>by
 obtain⟨⟨oL,m,I0,N,E⟩,pl,ok⟩:=id I;obtain⟨hk,hl⟩:=E.slots _ h.mem;obtain⟨_,_,o,ho,y,hd,hv⟩:=I0.sto _ ha.mem;exact wpAny_Name (wpAny_loadName_cell ok.kind hk hl ⟨o,ho,hd⟩ (k v σ y s B q (bh.refl _) I hv)) (E.nodbg _ h.mem)
theorem et.global {A:Around} {B P:aS} {env:Env} {s:Shared} (I:et B P env η σ s) {x:Str} {pos:Pos} {v:Value} (h:gx η x .glb) (hg:S.glob x v) {R:Value→Shared→Prop} (k:R v s):wpAny S.M A (eval (.Name x pos) env) R ft s:=by
 obtain⟨⟨oL,m,I0,N,E⟩,pl,ok⟩:=id I;have hk:=E.slots _ h.mem
 refine Name_function_global ok.kind hk ?_ (E.nodbg _ h.mem);rcases hg with hg|⟨hg,hb⟩
 ·exact loadGlobal_global (env:=env) (by erw[ok.glob];exact S.ng.keeps I0.h1k) hg k
 ·exact loadGlobal_builtin (env:=env) (by erw[ok.glob];exact S.ng.keeps I0.h1k) hg (by erw[ok.blt];exact S.nb.keeps I0.h1k) hb k
end
theorem gw {M:Model} {A:Around} {E:Value→Shared→Prop} {s:Shared} {vs keep:List Value} {Q:Unit→Shared→Prop} (h:Q () s):wpAny M A (release vs keep) Q E s:=fun Γ p hΓ=>by erw[Sem.wp_release];exact h
theorem m9 {M:Model} {A:Around} {E:Value→Shared→Prop} {s:Shared} {vs:List Value} {m:Sem Value} {Q:Value→Shared→Prop} (h:wpAny M A m Q E s):wpAny M A (operate vs m) Q E s:=fun Γ p hΓ=>by
 erw[Sem.wp_operate];exact h Γ p hΓ
section
variable {n:Nat} {η:aI} {σ:aj} {Q:V→aj→Prop}
theorem tu {i:Int} {k:Nat} {pos:Pos} (q:Q (.int i) σ):TE n (.Constant (.int i) k pos) η σ Q:=fun A B P env s R hA I kk=>
 wpAny_Constant_int (kk _ σ _ _ B q (bh.refl _) (I.toks _) (.int i _))
theorem wR {x:Str} {k:Nat} {pos:Pos} (q:Q (.str x) σ):TE n (.Constant (.str x) k pos) η σ Q:=fun A B P env s R hA I kk=>
 wpAny_Constant_str (kk _ σ _ _ B q (bh.refl _) (I.toks _) (.str x _))
theorem uu {b:Bool} {k:Nat} {pos:Pos} (q:Q (.bool b) σ):TE n (.Constant (.bool b) k pos) η σ Q:=fun A B P env s R hA I kk=>
 wpAny_Constant_bool (kk _ σ _ _ B q (bh.refl _) I (.bool b))
theorem mK {l r:Expr} {op:Operator} {pos:Pos} (h:TE n l η σ fun a σ₁=>TE n r η σ₁ fun b σ₂=>T2 n (binaryOp op) a b σ₂ Q):TE n (.BinOp l op r pos) η σ Q:=fun A B P env s R hA I k=>
 wpAny_BinOp (h A B P env s _ hA I fun a σ₁ x s₁ B₁ h₁ H₁ I₁ hx=>h₁ A B₁ P env s₁ _ hA I₁ fun b σ₂ y s₂ B₂ h₂ H₂ I₂ hy=>
  h₂.lift hA I₂ (hx.mono H₂) hy fun v σ' z s' B' q H I' hz=>k v σ' z s' B' q (H₁.trans (H₂.trans H)) I' hz)
theorem A0 {x:Expr} {op:UnaryOp} {pos:Pos} (h:TE n x η σ fun a σ₁=>T1 n (unaryOp op) a σ₁ Q):TE n (.UnaryOp op x pos) η σ Q:=fun A B P env s R hA I k=>
 wpAny_UnaryOp (h A B P env s _ hA I fun a σ₁ x s₁ B₁ h₁ H₁ I₁ hx=>h₁.lift hA I₁ hx fun v σ' z s' B' q H I' hz=>k v σ' z s' B' q (H₁.trans H) I' hz)
theorem wT {l r:Expr} {op:CmpOp} {pos:Pos} (h:TE n l η σ fun a σ₁=>TE n r η σ₁ fun b σ₂=>T2 n (compareOp op) a b σ₂ Q) (hm:autoParam (behindInMarks op r=false) tR):
 TE n (.Compare l [op] [r] pos) η σ Q:=fun A B P env s R hA I k=>
 wpAny_Compare1 (h A B P env s _ hA I fun a σ₁ x s₁ B₁ h₁ H₁ I₁ hx=>h₁ A B₁ P env s₁ _ hA I₁ fun b σ₂ y s₂ B₂ h₂ H₂ I₂ hy=>
  h₂.lift hA I₂ (hx.mono H₂) hy fun v σ' z s' B' q H I' hz=>k v σ' z s' B' q (H₁.trans (H₂.trans H)) I' hz) hm
theorem wS {t a b:Expr} {pos:Pos} (h:TB n t η σ fun c σ₁=>if c then TE n a η σ₁ Q else TE n b η σ₁ Q):TE n (.IfExp t a b pos) η σ Q:=fun A B P env s R hA I k=>
 wpAny_IfExp (h A B P env s _ hA I fun c σ₁ s₁ B₁ h₁ H₁ I₁=>by
  cases c
  ·exact h₁ A B₁ P env s₁ _ hA I₁ fun v σ' z s' B' q H I' hz=>k v σ' z s' B' q (H₁.trans H) I' hz
  ·exact h₁ A B₁ P env s₁ _ hA I₁ fun v σ' z s' B' q H I' hz=>k v σ' z s' B' q (H₁.trans H) I' hz)
theorem lm {l r:Expr} {op:CmpOp} {pos:Pos} {Q:Bool→aj→Prop} (h:TE n l η σ fun a σ₁=>TE n r η σ₁ fun b σ₂=>T2 n (compareOp op) a b σ₂ fun v σ₃=>∃c,v=.bool c∧Q c σ₃) (hm:autoParam (behindInMarks op r=false) tR):
 TB n (.Compare l [op] [r] pos) η σ Q:=fun A B P env s R hA I k=>
 wpAny_isTrue_Compare1 (h A B P env s _ hA I fun a σ₁ x s₁ B₁ h₁ H₁ I₁ hx=>h₁ A B₁ P env s₁ _ hA I₁ fun b σ₂ y s₂ B₂ h₂ H₂ I₂ hy=>
  h₂.lift hA I₂ (hx.mono H₂) hy fun v σ' z s' B' q H I' hz=>by
   obtain⟨c,rfl,q⟩:=q;injection hz
   exact wpAny_truthy_bool (k c σ' s' B' q (H₁.trans (H₂.trans H)) I')) hm
def CF (n:Nat) (op:BoolOp) (es:List Expr) (η:aI) (σ:aj) (Q:Bool→aj→Prop):Prop:=
 ∀A B P env s (R:Bool→Shared→Prop),iD A n→et B P env η σ s→
  (∀b σ' s' B',Q b σ'→bh B B'→et B' P env η σ' s'→R b s')→wpAny S.M A (allTrue op es env) R ft s
theorem yN {op:BoolOp} {es:List Expr} {pos:Pos} {Q:Bool→aj→Prop} (h:CF n op es η σ Q):TB n (.BoolOp op es pos) η σ Q:=fun A B P env s R hA I k=>
 wpAny_isTrue_BoolOp (h A B P env s R hA I k)
theorem eh {Q:Bool→aj→Prop} (q:Q true σ):CF n .And [] η σ Q:=fun A B P env s R hA I k=>wpAny_allTrue_And_nil (k _ σ s B q (bh.refl _) I)
theorem mL {Q:Bool→aj→Prop} (q:Q false σ):CF n .Or [] η σ Q:=fun A B P env s R hA I k=>wpAny_allTrue_Or_nil (k _ σ s B q (bh.refl _) I)
theorem yL {x:Expr} {r:List Expr} {Q:Bool→aj→Prop} (h:TB n x η σ fun b σ₁=>if b then CF n .And r η σ₁ Q else Q false σ₁):CF n .And (x::r) η σ Q:=fun A B P env s R hA I k=>
 wpAny_allTrue_And_cons (h A B P env s _ hA I fun c σ₁ s₁ B₁ h₁ H₁ I₁=>by
  cases c
  ·exact k _ σ₁ s₁ B₁ h₁ H₁ I₁
  ·exact h₁ A B₁ P env s₁ _ hA I₁ fun b σ' s' B' q H I'=>k b σ' s' B' q (H₁.trans H) I')
theorem BP {x:Expr} {r:List Expr} {Q:Bool→aj→Prop} (h:TB n x η σ fun b σ₁=>if b then Q true σ₁ else CF n .Or r η σ₁ Q):CF n .Or (x::r) η σ Q:=fun A B P env s R hA I k=>
 wpAny_allTrue_Or_cons (h A B P env s _ hA I fun c σ₁ s₁ B₁ h₁ H₁ I₁=>by
  cases c
  ·exact h₁ A B₁ P env s₁ _ hA I₁ fun b σ' s' B' q H I'=>k b σ' s' B' q (H₁.trans H) I'
  ·exact k _ σ₁ s₁ B₁ h₁ H₁ I₁)
theorem iH {e:Expr} {Q:Bool→aj→Prop} (h:TE n e η σ fun v σ₁=>∃c,v=.bool c∧Q c σ₁)
 (he:autoParam (∀env whole,isTrue e env whole=(do let v ←whole;standAt e.pos;holding [v] (truthy v))) tI):TB n e η σ Q:=fun A B P env s R hA I k=>
 wpAny_isTrue_value (h A B P env s _ hA I fun v σ' z s' B' q H I' hz=>by
  obtain⟨c,rfl,q⟩:=q;injection hz
  exact wpAny_truthy_bool (k c σ' s' B' q H I')) (he _ _)
theorem BO {x y:Expr} {pos:Pos} (h:TE n x η σ fun a σ₁=>∃c,a=.bool c∧if c then Q (.bool true) σ₁ else TE n y η σ₁ Q):TE n (.BoolOp .Or [x,y] pos) η σ Q:=fun A B P env s R hA I k=>
 wpAny_Or2 (h A B P env s _ hA I fun a σ₁ z s₁ B₁ h₁ H₁ I₁ hz=>by
  obtain⟨c,rfl,q⟩:=h₁;injection hz;refine wpAny_truthy_bool ?_;cases c
  ·exact q A B₁ P env s₁ _ hA I₁ fun v σ' z s' B' q H I' hz=>k v σ' z s' B' q (H₁.trans H) I' hz
  ·exact k _ σ₁ _ s₁ B₁ q H₁ I₁ (.bool _))
theorem vF {l r r':Expr} {op op':CmpOp} {pos:Pos} {Q:Bool→aj→Prop}
 (h:TE n l η σ fun a σ₁=>TE n r η σ₁ fun b σ₂=>T2 n (compareOp op) a b σ₂ fun v σ₃=>∃c,v=.bool c∧
  if c then TE n r' η σ₃ fun d σ₄=>T2 n (compareOp op') b d σ₄ fun v σ₅=>∃c',v=.bool c'∧Q c' σ₅ else Q false σ₃)
 (hm:autoParam (∀env,markedEach [op,op'] [r,r'] (evalEach [r,r'] env)=[eval r env,eval r' env]) tI):
 TB n (.Compare l [op,op'] [r,r'] pos) η σ Q:=fun A B P env s R hA I k=>by
 show wpAny S.M A (do testChain pos (←eval l env) [op,op'] (markedEach [op,op'] [r,r'] (evalEach [r,r'] env))) R ft s
 erw[hm]
 refine wpAny_bind (h A B P env s _ hA I fun a σ₁ x s₁ B₁ h₁ H₁ I₁ hx=>?_)
 refine wpAny_bind (wpAny_holding (h₁ A B₁ P env s₁ _ hA I₁ fun b σ₂ y s₂ B₂ h₂ H₂ I₂ hy=>?_))
 refine wpAny_bind (wpAny_standAt (wpAny_bind (wpAny_holding (h₂.lift hA I₂ (hx.mono H₂) hy fun v σ₃ z s₃ B₃ q H₃ I₃ hz=>?_))))
 obtain⟨c,rfl,q⟩:=q
 injection hz
 refine wpAny_bind (gw (wpAny_bind (wpAny_holding (wpAny_truthy_bool ?_))))
 cases c
 ·exact wpAny_pure (k _ σ₃ s₃ B₃ q (H₁.trans (H₂.trans H₃)) I₃)
 ·simp only[if_true]at q ⊢
  refine wpAny_bind (wpAny_holding (q A B₃ P env s₃ _ hA I₃ fun d σ₄ u s₄ B₄ h₄ H₄ I₄ hu=>?_))
  refine wpAny_bind (wpAny_standAt (wpAny_bind (m9 (h₄.lift hA I₄ (hy.mono (H₃.trans H₄)) hu fun v σ₅ z s₅ B₅ q H₅ I₅ hz=>?_))))
  obtain⟨c',rfl,q⟩:=q
  injection hz
  exact wpAny_holding (wpAny_truthy_bool (k c' σ₅ s₅ B₅ q (H₁.trans (H₂.trans (H₃.trans (H₄.trans H₅)))) I₅))
theorem ur {Q:List V→aj→Prop} (q:Q [] σ):rq n [] η σ Q:=fun A B P env s pos R hA I k=>wpAny_items_nil (k [] σ [] s B q (bh.refl _) I .nil)
theorem cL {e:Expr} {r:List Expr} {Q:List V→aj→Prop} (h:TE n e η σ fun v σ₁=>rq n r η σ₁ fun vs σ₂=>Q (v::vs) σ₂)
 (he:autoParam (∀env,starEach (e::r) env=(false,eval e env)::starEach r env) tI):rq n (e::r) η σ Q:=fun A B P env s pos R hA I k=>
 wpAny_items_cons (h A B P env s _ hA I fun v σ₁ x s₁ B₁ h₁ H₁ I₁ hx=>h₁ A B₁ P env s₁ pos _ hA I₁ fun vs σ₂ xs s₂ B₂ q H₂ I₂ hxs=>
  k _ σ₂ _ s₂ B₂ q (H₁.trans H₂) I₂ (.cons (hx.mono H₂) hxs)) (he _)
theorem wP {es:List Expr} {k:Nat} {pos:Pos} (h:rq n es η σ fun vs σ₁=>vs.length≤sizeLine∧Q (.tup vs) σ₁):TE n (.Tuple es k pos) η σ Q:=fun A B P env s R hA I kk=>
 wpAny_Tuple (h A B P env s pos _ hA I fun vs σ₁ xs s₁ B₁ q H I₁ hxs=>by
  obtain⟨hl,q⟩:=q;refine⟨by erw[←hxs.length];exact hl,?_⟩;obtain⟨oL,I0,L⟩:=I₁.lift;have I':=I0.push_base (o:=mD xs.toArray 0) rfl
  have H':bh B₁ (put B₁ s₁.heap.objs.size (mD xs.toArray 0)):=jB I0.fresh.1
  exact kk _ σ₁ _ _ _ q (H.trans H') (L _ _ _ H' I') (.tup (av ..) (hxs.mono H')))
theorem b8 {es:List Expr} {pos:Pos} (h:rq n es η σ fun vs σ₁=>vs.length≤sizeLine∧∀a,Q (.loc a) ((a,.lst vs)::σ₁)):TE n (.List es pos) η σ Q:=fun A B P env s R hA I kk=>
 wpAny_List (h A B P env s pos _ hA I fun vs σ₁ xs s₁ B₁ q H I₁ hxs=>by
  obtain⟨hl,q⟩:=q;refine⟨by erw[←hxs.length];exact hl,?_⟩;obtain⟨oL,I0,L⟩:=I₁.lift;have I':=I0.push_sto (o:=fu xs.toArray 0) (c:=.lst vs) rfl ⟨_,_,rfl,hxs⟩
  exact kk _ _ _ _ _ (q _) H (L _ _ _ (bh.refl _) I') (.loc _))
theorem bG {es:List Expr} {pos:Pos} (h:rq n es η σ fun vs σ₁=>vs.length≤sizeLine∧Q (.lst vs) σ₁):TE n (.List es pos) η σ Q:=fun A B P env s R hA I kk=>
 wpAny_List (h A B P env s pos _ hA I fun vs σ₁ xs s₁ B₁ q H I₁ hxs=>by
  obtain⟨hl,q⟩:=q;refine⟨by erw[←hxs.length];exact hl,?_⟩;obtain⟨oL,I0,L⟩:=I₁.lift;have I':=I0.push_base (o:=fu xs.toArray 0) rfl
  have H':bh B₁ (put B₁ s₁.heap.objs.size (fu xs.toArray 0)):=jB I0.fresh.1
  exact kk _ σ₁ _ _ _ q (H.trans H') (L _ _ _ H' I') (.lst (av ..) (hxs.mono H')))
theorem CR.newS {B:aS}:CR B emptyDict (.dS []):=
 ⟨[],⟨⟨rfl,rfl,rfl⟩,#[],0,rfl,fun e he=>by simp at he,.nil,.nil⟩,.nil⟩
theorem CR.newI {B:aS}:CR B emptyDict (.dI []):=
 ⟨[],⟨⟨rfl,rfl,rfl⟩,#[],0,rfl,fun e he=>by simp at he,.nil,.nil⟩,.nil⟩
theorem gC {pos:Pos} (h:∀a,Q (.loc a) ((a,.dS [])::σ)):TE n (.Dict [] [] pos) η σ Q:=fun A B P env s R hA I kk=>
 wpAny_Dict_empty (by
  obtain⟨oL,I0,L⟩:=I.lift
  exact kk _ _ _ _ _ (h _) (bh.refl _) (L _ _ _ (bh.refl _) (I0.push_sto (c:=.dS []) rfl CR.newS)) (.loc _))
theorem f9 {pos:Pos} (h:∀a,Q (.loc a) ((a,.dI [])::σ)):TE n (.Dict [] [] pos) η σ Q:=fun A B P env s R hA I kk=>
 wpAny_Dict_empty (by
  obtain⟨oL,I0,L⟩:=I.lift
  exact kk _ _ _ _ _ (h _) (bh.refl _) (L _ _ _ (bh.refl _) (I0.push_sto (c:=.dI []) rfl CR.newI)) (.loc _))
end
section
variable {n:Nat} {σ:aj} {Q:V→aj→Prop}
theorem x9 {i j:Int} (q:Q (.int (i+j)) σ):T2 n (binaryOp .Add) (.int i) (.int j) σ Q:=fun A B P s x y R hA I hx hy k=>by
 injection hx;injection hy;exact add_int (k _ σ _ _ B q (bh.refl _) (I.toks _) (.int _ _))
theorem x0 {i j:Int} (q:Q (.int (i-j)) σ):T2 n (binaryOp .Sub) (.int i) (.int j) σ Q:=fun A B P s x y R hA I hx hy k=>by
 injection hx;injection hy;exact sub_int (k _ σ _ _ B q (bh.refl _) (I.toks _) (.int _ _))
theorem gA {i j:Int} (q:Q (.int (i*j)) σ) (h:IntMulOk i j):T2 n (binaryOp .Mult) (.int i) (.int j) σ Q:=fun A B P s x y R hA I hx hy k=>by
 injection hx;injection hy;exact mul_int (k _ σ _ _ B q (bh.refl _) (I.toks _) (.int _ _)) h
theorem tv {i j:Int} (q:Q (.int (i/j)) σ) (h:0<j) (h':j<2 ^ 30):T2 n (binaryOp .FloorDiv) (.int i) (.int j) σ Q:=fun A B P s x y R hA I hx hy k=>by
 injection hx;injection hy;refine floordiv_int (by exact xq h) ?_ (.inl ?_)
 ·have:Int.fdiv i j=i/j:=Int.fdiv_eq_ediv_of_nonneg _ (by exact Da h)
  erw[this];exact k _ σ _ _ B q (bh.refl _) (I.toks _) (.int _ _)
 ·unfold PySem.Builtin.divisionGoesByPylong;erw[Bool.and_eq_false_iff];left;erw[decide_eq_false_iff_not];have h1:j.natAbs<2 ^ 30:=by exact B4 (by assumption) (by assumption)
  have h2:j.natAbs≠0:=by exact B5 (by assumption)
  have h3:(j==0)=false:=by simp;exact Jq h
  have:Nat.log2 j.natAbs<30:=(Nat.log2_lt h2).mpr h1
  simp only[h3,Bool.false_eq_true,if_false];omega
theorem ln {i j:Int} (q:Q (.int (i%j)) σ) (h:0<j):T2 n (binaryOp .Mod) (.int i) (.int j) σ Q:=fun A B P s x y R hA I hx hy k=>by
 injection hx;injection hy;refine mod_int' (by exact xq h) ?_;have:Int.fmod i j=i%j:=Int.fmod_eq_emod_of_nonneg _ (by exact Da h)
 erw[this];exact k _ σ _ _ B q (bh.refl _) (I.toks _) (.int _ _)
theorem iJ {x y:Str} (q:Q (.str (x++y)) σ) (h:x.length+y.length≤sizeLine):T2 n (binaryOp .Add) (.str x) (.str y) σ Q:=fun A B P s u v R hA I hx hy k=>by
 injection hx;injection hy;exact add_str (fun t' tk=>k _ σ _ _ B q (bh.refl _) (I.toks _) (.str _ _)) h
theorem xe {i:Int} (q:Q (.int (-i)) σ):T1 n (unaryOp .USub) (.int i) σ Q:=fun A B P s x R hA I hx k=>by
 injection hx;exact neg_int (k _ σ _ _ B q (bh.refl _) (I.toks _) (.int _ _))
theorem x8 {i j:Int} (q:Q (.bool (i==j)) σ):T2 n (compareOp .Eq) (.int i) (.int j) σ Q:=fun A B P s x y R hA I hx hy k=>by
 injection hx;injection hy;exact eq_int (k _ σ _ _ B q (bh.refl _) I (.bool _))
theorem BV {i j:Int} (q:Q (.bool (i != j)) σ):T2 n (compareOp .NotEq) (.int i) (.int j) σ Q:=fun A B P s x y R hA I hx hy k=>by
 injection hx;injection hy;exact ne_int (k _ σ _ _ B q (bh.refl _) I (.bool _))
theorem Ac {i j:Int} (q:Q (.bool (decide (i<j))) σ):T2 n (compareOp .Lt) (.int i) (.int j) σ Q:=fun A B P s x y R hA I hx hy k=>by
 injection hx;injection hy;exact lt_int (k _ σ _ _ B q (bh.refl _) I (.bool _))
theorem Ae {i j:Int} (q:Q (.bool (decide (i≤j))) σ):T2 n (compareOp .LtE) (.int i) (.int j) σ Q:=fun A B P s x y R hA I hx hy k=>by
 injection hx;injection hy;exact le_int (k _ σ _ _ B q (bh.refl _) I (.bool _))
theorem CW {i j:Int} (q:Q (.bool (decide (i>j))) σ):T2 n (compareOp .Gt) (.int i) (.int j) σ Q:=fun A B P s x y R hA I hx hy k=>by
 injection hx;injection hy;exact gt_int (k _ σ _ _ B q (bh.refl _) I (.bool _))
theorem Af {i j:Int} (q:Q (.bool (decide (i≥j))) σ):T2 n (compareOp .GtE) (.int i) (.int j) σ Q:=fun A B P s x y R hA I hx hy k=>by
 injection hx;injection hy;exact ge_int (k _ σ _ _ B q (bh.refl _) I (.bool _))
theorem x7 {x y:Str} (q:Q (.bool (x==y)) σ):T2 n (compareOp .Eq) (.str x) (.str y) σ Q:=fun A B P s u v R hA I hx hy k=>by
 injection hx;injection hy;exact eq_str (k _ σ _ _ B q (bh.refl _) I (.bool _))
theorem qu {x y:Str} (q:Q (.bool (x != y)) σ):T2 n (compareOp .NotEq) (.str x) (.str y) σ Q:=fun A B P s u v R hA I hx hy k=>by
 injection hx;injection hy;exact ne_str (k _ σ _ _ B q (bh.refl _) I (.bool _))
end
inductive aM (σ:aj):V→bp→Prop
 | loc {a:Addr} {c:bp}:At σ a c→aM σ (.loc a) c
 | lst {vs:List V}:aM σ (.lst vs) (.lst vs)
 | dS {kvs:List (Str×V)}:aM σ (.dS kvs) (.dS kvs)
 | dI {kvs:List (Int×V)}:aM σ (.dI kvs) (.dI kvs)
section
variable {B P:aS} {σ:aj} {s:Shared}
theorem aK.view (I:aK B P σ s) {v:V} {c:bp} {x:Value} (h:aM σ v c) (r:VR B v x):
 ∃a o,x=.ref a∧s.heap.get? a=some o∧CR B o c:=by
 delta B P σ s I v c x h r at ⊢;cases h with
 | loc h=>
  injection r;obtain⟨_,_,o,e,c⟩:=I.sto _ h.mem;exact⟨_,o,rfl,e,c⟩
 | lst=>cases r with|lst e r=>exact⟨_,_,rfl,I.base _ _ e,_,_,rfl,r⟩
 | dS=>cases r with|dS e _ o r=>exact⟨_,_,rfl,I.base _ _ e,_,o,r⟩
 | dI=>cases r with|dI e _ o r=>exact⟨_,_,rfl,I.base _ _ e,_,o,r⟩
theorem aK.notSys (I:aK B P σ s) {v:V} {c:bp} {a:Addr} (h:aM σ v c) (hc:(∀vs,c≠.lst vs)) (r:VR B v (.ref a)):(a==sysModules)=false:=by
 delta B P σ s I v c a h hc r at ⊢;cases h with
 | loc h=>
  cases r;erw[beq_eq_false_iff_ne];exact I.sysN h.mem
 | lst=>exact absurd rfl (hc _)
 | dS=>cases r with|dS e q o r=>exact q
 | dI=>cases r with|dI e q o r=>exact q
theorem CR.isList {B:aS} {o:Obj} {vs:List V} {h:Heap} {a:Addr} (c:CR B o (.lst vs)) (e:h.get? a=some o):∃items n,o=fu items n∧h.IsList a items∧cf B vs items.toList:=by
 obtain⟨items,n,rfl,r⟩:=c;exact⟨items,n,rfl,⟨_,e,rfl,n,rfl⟩,r⟩
end
section
variable {n:Nat} {η:aI} {σ:aj} {Q:V→aj→Prop}
theorem qq {value slice:Expr} {pos:Pos} (h:TE n value η σ fun o σ₁=>TE n slice η σ₁ fun i σ₂=>T2 n (subscriptTail value slice) o i σ₂ Q):TE n (.Subscript value slice pos) η σ Q:=fun A B P env s R hA I k=>
 Subscript_ (h A B P env s _ hA I fun a σ₁ x s₁ B₁ h₁ H₁ I₁ hx=>h₁ A B₁ P env s₁ _ hA I₁ fun b σ₂ y s₂ B₂ h₂ H₂ I₂ hy=>
  h₂.lift hA I₂ (hx.mono H₂) hy fun v σ' z s' B' q H I' hz=>k v σ' z s' B' q (H₁.trans (H₂.trans H)) I' hz)
theorem oc {A:Around} {B P:aS} {s:Shared} {l:V} {vs:List V} {i:Int} {v:V} {x:Value} {t:Tok} {R:Value→Shared→Prop} (I:aK B P σ s) (hl:aM σ l (.lst vs)) (h0:0≤i) (hv:vs[i.toNat]?=some v) (hi:i<2 ^ 63)
 (r:VR B l x) (k:∀y,VR B v y→R y s):wpAny S.M A (getItem x (.int i t)) R ft s:=by
 obtain⟨a,o,rfl,e,c⟩:=I.view hl r;obtain⟨items,m,_,il,rs⟩:=c.isList e;obtain⟨y,hy,ry⟩:=rs.get hv;exact wpAny_getItem_list il h0 hi (by simpa using hy) (k y ry)
theorem al {value slice:Expr} {l:V} {vs:List V} {i:Int} {v:V} (hl:aM σ l (.lst vs)) (hv:vs[i.toNat]?=some v) (h0:0≤i) (hi:i<2 ^ 63) (q:Q v σ)
 (hs:autoParam (∀o i,subscripted slice false o i=operate [o,i] (getItem o i)) tI):T2 n (subscriptTail value slice) l (.int i) σ Q:=fun A B P s x y R hA I hx hy k=>by
 obtain⟨a,o,rfl,e,c⟩:=I.view hl hx;obtain⟨items,m,_,il,rs⟩:=c.isList e;injection hy;exact tail_any il.typeIs slot_list_getitem.lookup (oc I hl h0 hv hi hx fun y ry=>k _ σ _ _ B q (bh.refl _) I ry) (hs _ _)
theorem qw {value slice:Expr} {l:V} {vs:List V} {v:V} (hl:aM σ l (.lst vs)) (hv:vs[vs.length-1]?=some v) (q:Q v σ)
 (hs:autoParam (∀o i,subscripted slice false o i=operate [o,i] (getItem o i)) tI):T2 n (subscriptTail value slice) l (.int (-1)) σ Q:=fun A B P s x y R hA I hx hy k=>by
 obtain⟨a,o,rfl,e,c⟩:=I.view hl hx;obtain⟨items,m,_,il,rs⟩:=c.isList e;injection hy;obtain⟨y,hy,ry⟩:=rs.get hv;have hlen:vs.length=items.size:=by have:=rs.length;simpa using this
 have hpos:0<vs.length:=by
  rcases Nat.eq_zero_or_pos vs.length with h|h
  ·rw[List.eq_nil_of_length_eq_zero h]at hv;simp at hv
  ·exact h
 refine tail_any il.typeIs slot_list_getitem.lookup (wpAny_getItem_list_neg il (by omega) (by exact IR hpos hlen) (by omega) (x:=y) ?_ (k _ σ _ _ B q (bh.refl _) I ry)) (hs _ _);erw[show((-1:Int)+(items.size:Int)).toNat=vs.length-1 by exact IP hpos hlen];simpa using hy
theorem uv {value slice:Expr} {vs:List V} {i:Int} {v:V} (hv:vs[i.toNat]?=some v) (h0:0≤i) (hi:i<2 ^ 63) (q:Q v σ)
 (hs:autoParam (∀o i,subscripted slice false o i=operate [o,i] (getItem o i)) tI):T2 n (subscriptTail value slice) (.tup vs) (.int i) σ Q:=fun A B P s x y R hA I hx hy k=>by
 injection hy;cases hx with
 | @tup a _ items m e r=>
  obtain⟨y,hy,ry⟩:=r.get hv
  have hb:i.toNat<items.toList.length:=by
   rcases Nat.lt_or_ge i.toNat items.toList.length with h|h
   ·exact h
   ·rw[List.getElem?_eq_none h]at hy;injection hy
  refine item_tupleT (l:=items.toList) (j:=i.toNat) ⟨_,I.base _ _ e,rfl,m,rfl⟩ (by exact IO h0) hi ?_ hy (k _ σ _ _ B q (bh.refl _) I ry) (hs _ _);unfold seqIndex?;have:¬(i<0):=by exact IN h0
  simp only[this,if_false];erw[if_pos (by simp only[Bool.and_eq_true,decide_eq_true_eq];exact IM h0 hb)]
theorem bo {value slice:Expr} {d:V} {kvs:List (Str×V)} {x:Str} {v:V} (hd:aM σ d (.dS kvs)) (hv:aB kvs x=some v) (q:Q v σ)
 (hs:autoParam (∀o i,subscripted slice false o i=operate [o,i] (getItem o i)) tI):T2 n (subscriptTail value slice) d (.str x) σ Q:=fun A B P s xv y R hA I hx hy k=>by
 obtain ⟨a,o,rfl,e,c⟩:=I.view hd hx;obtain ⟨ps,od,rs⟩:=c;injection hy;obtain ⟨y,hy,ry⟩:=rs.look hv;have D:=od.at (knd:=strKind S.prog S.w) e
 exact tail_any D.typeIs slot_dict_getitem.lookup (wpAny_getItem_of (strKind_is S.prog S.w x _) D.mapOf hy (k _ σ _ _ B q (bh.refl _) (I.toks _) ry)) (hs _ _)
theorem i5 {value slice:Expr} {d:V} {kvs:List (Int×V)} {i:Int} {v:V} (hd:aM σ d (.dI kvs)) (hv:aB kvs i=some v) (q:Q v σ)
 (hs:autoParam (∀o i,subscripted slice false o i=operate [o,i] (getItem o i)) tI):T2 n (subscriptTail value slice) d (.int i) σ Q:=fun A B P s xv y R hA I hx hy k=>by
 obtain ⟨a,o,rfl,e,c⟩:=I.view hd hx;obtain ⟨ps,od,rs⟩:=c;injection hy;obtain ⟨y,hy,ry⟩:=rs.look hv;have D:=od.at (knd:=intKind S.prog S.w) e
 exact tail_any D.typeIs slot_dict_getitem.lookup (wpAny_getItem_of (intKind_is S.prog S.w i _) D.mapOf hy (k _ σ _ _ B q (bh.refl _) (I.toks _) ry)) (hs _ _)
theorem uw {d:V} {kvs:List (Str×V)} {x:Str} (hd:aM σ d (.dS kvs)) (q:Q (.bool (!(aB kvs x).isSome)) σ):T2 n (compareOp .NotIn) (.str x) d σ Q:=fun A B P s y xv R hA I hy hx k=>by
 obtain ⟨a,o,rfl,e,ps,od,rs⟩:=I.view hd hx;have hy':=hy;injection hy'
 have D:=od.at (knd:=strKind S.prog S.w) e
 refine wpAny_notIn_of (strKind_is S.prog S.w x _) (I.notSys hd (fun U h=>by injection h) hx) D.mapOf ?_
 have:(valueAt ps x).isSome=(aB kvs x).isSome:=by
  cases h:aB kvs x with
  | none=>erw [rs.look_none h];rfl
  | some v=>obtain ⟨y,h,_⟩:=rs.look h;erw [h];rfl
 erw [this];exact k _ σ _ _ B q (bh.refl _) (I.toks _) (.bool _)
theorem C2 {d:V} {kvs:List (Int×V)} {x:Int} (hd:aM σ d (.dI kvs)) (q:Q (.bool (aB kvs x).isSome) σ):T2 n (compareOp .In) (.int x) d σ Q:=fun A B P s y xv R hA I hy hx k=>by
 obtain ⟨a,o,rfl,e,ps,od,rs⟩:=I.view hd hx;have hy':=hy;injection hy'
 have D:=od.at (knd:=intKind S.prog S.w) e
 refine wpAny_in_of (intKind_is S.prog S.w x _) (I.notSys hd (fun U h=>by injection h) hx) D.mapOf ?_
 have:(valueAt ps x).isSome=(aB kvs x).isSome:=by
  cases h:aB kvs x with
  | none=>erw [rs.look_none h];rfl
  | some v=>obtain ⟨y,h,_⟩:=rs.look h;erw [h];rfl
 erw [this];exact k _ σ _ _ B q (bh.refl _) (I.toks _) (.bool _)
theorem uy {d:V} {kvs:List (Int×V)} {x:Int} (hd:aM σ d (.dI kvs)) (q:Q (.bool (!(aB kvs x).isSome)) σ):T2 n (compareOp .NotIn) (.int x) d σ Q:=fun A B P s y xv R hA I hy hx k=>by
 obtain ⟨a,o,rfl,e,ps,od,rs⟩:=I.view hd hx;have hy':=hy;injection hy'
 have D:=od.at (knd:=intKind S.prog S.w) e
 refine wpAny_notIn_of (intKind_is S.prog S.w x _) (I.notSys hd (fun U h=>by injection h) hx) D.mapOf ?_
 have:(valueAt ps x).isSome=(aB kvs x).isSome:=by
  cases h:aB kvs x with
  | none=>erw [rs.look_none h];rfl
  | some v=>obtain ⟨y,h,_⟩:=rs.look h;erw [h];rfl
 erw [this];exact k _ σ _ _ B q (bh.refl _) (I.toks _) (.bool _)
theorem f0 {a:Addr} {kvs:List (Str×V)} {x:Str} {v:V} {Q:aj→Prop} {σ':aj} (u:fK σ a (.dS kvs) (.dS (bj kvs x v)) σ') (q:Q σ') (hsz:kvs.length≤10000):T3 n setItem (.loc a) (.str x) v σ Q:=fun A B P s o i y R hA I ho hi hy k=>by
 injection ho;injection hi;obtain ⟨_,_,o,e,ps,od,rs⟩:=I.sto _ u.mem;have D:=od.at (knd:=strKind S.prog S.w) e
 refine wpAny_setItem_pairs (strKind_is S.prog S.w x _) D (fun h' D' hs=>?_) (by erw [← rs.length,sizeLine_eq];omega);obtain ⟨o',e',od'⟩:=OD.of _ D';exact k σ' _ B q (bh.refl _) (I.upd u hs e' ⟨_,od',rs.stored od.2.choose_spec.choose_spec.2.2.2 hy⟩)
theorem dy {a:Addr} {kvs:List (Int×V)} {x:Int} {v:V} {Q:aj→Prop} {σ':aj} (u:fK σ a (.dI kvs) (.dI (bj kvs x v)) σ') (q:Q σ') (hsz:kvs.length≤10000):T3 n setItem (.loc a) (.int x) v σ Q:=fun A B P s o i y R hA I ho hi hy k=>by
 injection ho;injection hi;obtain ⟨_,_,o,e,ps,od,rs⟩:=I.sto _ u.mem;have D:=od.at (knd:=intKind S.prog S.w) e
 refine wpAny_setItem_pairs (intKind_is S.prog S.w x _) D (fun h' D' hs=>?_) (by erw [← rs.length,sizeLine_eq];omega);obtain ⟨o',e',od'⟩:=OD.of _ D';exact k σ' _ B q (bh.refl _) (I.upd u hs e' ⟨_,od',rs.stored od.2.choose_spec.choose_spec.2.2.2 hy⟩)
theorem cb {a:Addr} {vs:List V} {i:Int} {v:V} {Q:aj→Prop} {σ':aj} (u:fK σ a (.lst vs) (.lst (vs.set i.toNat v)) σ') (h0:0≤i) (h1:i<vs.length) (hi:i<2 ^ 63) (q:Q σ'):T3 n setItem (.loc a) (.int i) v σ Q:=fun A B P s o iv y R hA I ho hiv hy k=>by
 injection ho;injection hiv;obtain⟨_,_,o,e,items,m,rfl,rs⟩:=I.sto _ u.mem;have hlen:vs.length=items.size:=by have:=rs.length;simpa using this
 refine ki_setAt e h0 hi (by exact IL h1 hlen) (k σ' _ B q (bh.refl _) (I.upd (t:=s.toks) u (Heap.SameBut.update ..) (Heap.get?_update_self _ e rfl) ⟨items.setIfInBounds i.toNat y,_,rfl,by simpa using rs.set hy i.toNat⟩))
end
def qg (K:Frag) (C:Addr):Bool:=findIn K (.ref C) "__getattribute__" == some (some (.builtin "object.__getattribute__"))&&findIn K (.ref C) "__getattr__" == some none&&hasDictIn K C
 && findIn K (.ref C) "__setattr__" == some (some (.builtin "object.__setattr__"))&&plainOver K C
def cq (K:Frag) (C:Addr) (name:Str):Prop:=qg K C=true∧findIn K (.ref C) name=some none∧takerIn K C name=some none
theorem VR.handed {B:aS} {v:V} {x:Value} (h:VR B v x):handedIn x=true:=
 VR.rec (motive_1:=fun U x U=>handedIn x=true) (motive_2:=fun U U U=>True) (motive_3:=fun U U U=>True) (motive_4:=fun U U U=>True) rfl (fun U=>rfl) (fun U U=>rfl) (fun U U=>rfl) (fun U=>rfl) (fun U=>rfl) (fun U U U=>rfl) (fun U U U=>rfl) (fun U U U U U=>rfl) (fun U U U U U=>rfl) (fun U U U U U=>rfl) trivial (fun U U U U=>trivial) trivial (fun U U U U=>trivial) trivial (fun U U U U=>trivial) h
section
variable {prog:Program} {w:World}
theorem OD.lookIn {o:Obj} {ps:List (Str×Value)} (h:OD (strKind prog w) o ps) {name:Str} {y:Value} (e:valueAt ps name=some y):lookIn name o=some (some y):=by
 delta prog w o ps h name y e at ⊢;injection h with _ es ep hd _ hp _;have q:=hp.find name
 rw[e]at q;unfold PySem.W.lookIn;erw[hd];dsimp only;have hf:(fun d:DictEntry=>(strKind prog w).is name d.key)=fun d=>d.key.isStr name:=funext fun d=>(isStr_of name d.key).symm
 rw[hf]at q;cases hx:es.toList.find? fun d=>d.key.isStr name with
 | none=>rw[hx]at q;cases q
 | some z=>rw[hx]at q;simp at q;simp[q]
theorem OD.noRef {o:Obj} {ps:List (Str×Value)} {es:Array DictEntry} {ep:Nat} (hk:KeysOf (strKind prog w) es):es.any (·.refKey)=false:=by
 erw[Array.any_eq_false'];intro e he;obtain⟨k,hk,_⟩:=hk e he;obtain⟨t,ht⟩:=Value.isStrOf_shape hk;simp[DictEntry.refKey,ht]
theorem OD.lookIn_none {o:Obj} {ps:List (Str×Value)} (h:OD (strKind prog w) o ps) {name:Str} (e:valueAt ps name=none):PySem.W.lookIn name o=some none:=by
 delta prog w o ps h name e at ⊢;injection h with _ es ep hd hk hp _;have q:=hp.find name
 rw[e]at q;unfold PySem.W.lookIn;erw[hd];dsimp only;have hf:(fun d:DictEntry=>(strKind prog w).is name d.key)=fun d=>d.key.isStr name:=funext fun d=>(isStr_of name d.key).symm
 rw[hf]at q;cases hx:es.toList.find? fun d=>d.key.isStr name with
 | some z=>rw[hx]at q;cases q
 | none=>
  have:=OD.noRef (o:=o) (ps:=ps) (ep:=ep) hk
  rw[←Array.any_toList]at this;simp[this]
theorem tM (w:World) (x:Str):PyData.keyHash w.params x=hashStr w x:=by
 first|rfl|(unfold PyData.keyHash hashStr;rfl)
theorem OD.putName {o:Obj} {ps:List (Str×Value)} (h:OD (strKind prog w) o ps) {name:Str} {t:Tok} {y:Value} {hh:Int} (e:hh=hashStr w name):
 OD (strKind prog w) (Obj.putName name hh (.str name t) y o) (stored ps name y):=by
 delta prog w o ps h name t y hh e at ⊢;injection h with hx es ep hd hk hp hn;obtain⟨c,d,dt,sl⟩:=o;delta c d dt sl at *;dsimp only at hd;subst hd;erw[Obj.putName_eq];unfold Obj.putNameByArray;dsimp only;have hf:(fun d:DictEntry=>d.key.isStr name)=fun d=>(strKind prog w).is name d.key:=funext fun d=>isStr_of name d.key
 erw[hf];have hkey:(strKind prog w).is name (.str name t)=true:=strKind_is prog w name t
 have hidx:(es.findIdx? fun e=>(strKind prog w).is name e.key)=ps.findIdx? fun kv=>decide (kv.1=name):=by
  erw[←hp.findIdx name];obtain⟨l⟩:=es;simp
 cases hi:es.findIdx? fun e=>(strKind prog w).is name e.key with
 | some i=>
  delta i at *;dsimp only;refine⟨hx,_,ep,rfl,hk.modify _ _,?_,?_⟩
  ·erw[stored,if_pos (any_of_findIdx_some (hidx▸hi))];have hl:(es.toList.findIdx? fun e=>(strKind prog w).is name e.key)=some i:=by erw[←hi];obtain⟨l⟩:=es;simp
   have:=hp.modify hn hl y
   first|(have l:=es)|(obtain⟨l⟩:=es;delta l at *)
   simpa using this
  ·erw[stored,if_pos (any_of_findIdx_some (hidx▸hi)),keys_map_store];exact hn
 | none=>
  dsimp only;have hnot:name∉ps.map (fun U=>U.1):=not_mem_of_findIdx_none (hidx▸hi)
  have hany:¬(ps.any fun kv=>decide (kv.1=name))=true:=by
   erw[List.any_eq_true];rintro⟨kv,hkv,he⟩;exact hnot (List.mem_map.mpr ⟨kv,hkv,of_decide_eq_true he⟩)
  subst e;refine⟨hx,_,ep+1,rfl,hk.push hkey _,?_,?_⟩
  ·erw[stored,if_neg hany];have:=hp.append hkey (hashStr w name) y
   first|(have l:=es)|(obtain⟨l⟩:=es;delta l at *)
   simpa using this
  ·erw[stored,if_neg hany,List.map_append,List.nodup_append];refine⟨hn,by simp,?_⟩;delta a ha b hb e;simp at hb;subst hb;subst e;exact hnot ha
theorem OD.notFreed {K:Type} [DecidableEq K] {knd:PySem.KeyKind prog w K} {o:Obj} {ps:List (K×Value)} (h:OD knd o ps):o.isFreed=false:=by
 obtain⟨_,es,ep,hd,_⟩:=h;exact Obj.isFreed_of_dict hd
end
section
variable {n:Nat} {η:aI} {σ:aj} {Q:V→aj→Prop}
theorem dq {value:Expr} {attr:Str} {pos:Pos} (h:TE n value η σ fun o σ₁=>T1 n (fun x=>getAttr x attr true) o σ₁ Q)
 (he:autoParam (∀env,eval (.Attribute value attr pos) env=(do let o ←eval value env;standAt pos.atName;let r ←holding [o] (getAttr o attr true);letTemporaryGo value o r;pure r)) tI):
 TE n (.Attribute value attr pos) η σ Q:=fun A B P env s R hA I k=>
 Attribute_any_ (h A B P env s _ hA I fun a σ₁ x s₁ B₁ h₁ H₁ I₁ hx=>h₁.lift hA I₁ hx fun v σ' z s' B' q H I' hz=>k v σ' z s' B' q (H₁.trans H) I' hz) (he env)
theorem f5 {a C dx:Addr} {kvs:List (Str×V)} {attr:Str} {v:V} {ex:Bool} (h:At σ a (.inst C dx)) (h':At σ dx (.dS kvs)) (hv:aB kvs attr=some v) (hC:cq S.K C attr) (q:Q v σ):
 T1 n (fun x=>getAttr x attr ex) (.loc a) σ Q:=fun A B P s x R hA I hx k=>by
 injection hx;obtain⟨_,_,o,e,rfl⟩:=I.sto _ h.mem;obtain⟨_,_,od,e',ps,D,rs⟩:=I.sto _ h'.mem;obtain⟨y,hy,ry⟩:=rs.look hv;obtain⟨c1,c2,c3⟩:=hC;simp only[qg,Bool.and_eq_true,beq_iff_eq]at c1;exact get_value I.kin (od:=some od) ⟨e,rfl,rfl,e'⟩ c1.1.1.1.1 (findObj_own c1.1.1.2 c2 rfl (D.lookIn hy)) ry.handed (k _ σ _ _ B q (bh.refl _) (I.toks _) ry)
theorem eB {C:Addr} {kvs:List (Str×V)} {attr:Str} {v:V} {ex:Bool} (hv:aB kvs attr=some v) (hC:cq S.K C attr) (q:Q v σ):
 T1 n (fun x=>getAttr x attr ex) (.obj C kvs) σ Q:=fun A B P s x R hA I hx k=>by
 cases hx with
 | obj e e' D rs=>
  obtain⟨y,hy,ry⟩:=rs.look hv;obtain⟨c1,c2,c3⟩:=hC;simp only[qg,Bool.and_eq_true,beq_iff_eq]at c1;exact get_value I.kin (od:=some _) ⟨I.base _ _ e,rfl,rfl,I.base _ _ e'⟩ c1.1.1.1.1 (findObj_own c1.1.1.2 c2 rfl (D.lookIn hy)) ry.handed (k _ σ _ _ B q (bh.refl _) (I.toks _) ry)
theorem wB {prog:Program} {w:World} {A:Around} {E:Value→Shared→Prop} {s:Shared} {dx:Addr} {od:Obj} {ps:List (Str×Value)} {name:Str} {y:Value} {Q:Unit→Shared→Prop} (e:s.heap.get? dx=some od) (D:OD (strKind prog w) od ps) (hz:ps.length≤10000)
 (k:∀h' od',h'.get? dx=some od'→OD (strKind prog w) od' (stored ps name y)→Heap.SameBut dx s.heap h'→Q () { s with heap:=h',toks:=s.toks+1 }):wpAny (model prog w) A (nsSet dx name y) Q E s:=by
 delta prog w A E s dx od ps name y Q e D hz k at ⊢;have D2:OD (strKind prog w) (Obj.putName name (PyData.keyHash w.params name) (.str name s.toks) y od) (stored ps name y):=D.putName (tM w name)
 have kk:=k (s.heap.update dx (Obj.putName name (PyData.keyHash w.params name) (.str name s.toks) y)) _ (Heap.get?_update_self _ e D2.notFreed) D2 (Heap.SameBut.update ..)
 have e2:(s.heap.update dx (Obj.putName name (PyData.keyHash w.params name) (.str name s.toks) y)).get? dx=some (Obj.putName name (PyData.keyHash w.params name) (.str name s.toks) y od):=Heap.get?_update_self _ e D2.notFreed
 injection (id D)with _ es ep hd hk hp hn;unfold nsSet;refine wpAny_bind (wpAny_bind (wpAny_askSetting (wpAny_pure (wpAny_bind (wpAny_mkText (wpAny_bind (wpAny_loadPart e ?_)))))));erw[hd];dsimp only;have c:(!es.any (·.key.isStr name)&&es.any (·.refKey))=false:=by erw[OD.noRef (o:=od) (ps:=ps) (ep:=ep) hk,Bool.and_false]
 erw[aRefKeyMayBeTheName_at,c];exact wpAny_updatePart e kk
theorem bd {a C dx:Addr} {kvs:List (Str×V)} {attr:Str} {u v:V} {Q:aj→Prop} {σ':aj} (h:At σ a (.inst C dx)) (h':fK σ dx (.dS kvs) (.dS (bj kvs attr v)) σ') (hC:cq S.K C attr) (q:Q σ') (hz:kvs.length≤1000):
 T3 n (fun x U z=>setAttr x attr z) (.loc a) u v σ Q:=by
 delta n σ a C dx kvs attr u v Q σ' h h' hC q hz at ⊢;delta A B P s x y z R hA I hx;intro _;delta hz' k;injection hx;injection (I.sto _ h.mem)with _ _ o e rfl;injection (I.sto _ h'.mem)with _ _ od e' ps D rs;injection hC with c1 c2 c3;simp only[qg,Bool.and_eq_true,beq_iff_eq]at c1;have I':InstAt s.heap a (instObj C dx) C (some od):=⟨e,rfl,rfl,e'⟩
 refine set_plain I.kin I' c1.1.2 ?_;refine osa_open (s:={ s with toks:=s.toks+1 }) I.kin I' c1.2 c3 ?_;delta b;injection (any_some c1.1.1.2)with cd hc ku;refine wpAny_bind (wpAny_pure (wpAny_bind (wpAny_bind (wpAny_loadPart e (wpAny_bind ((looks_clsIn I.kin hc).at ?_))))));erw[ku];refine wpAny_pure (a:=some dx) (wpAny_bind (wpAny_pure (wpAny_bind ?_)));refine wB (s:={ s with toks:=s.toks+1 }) (w:=S.w) (prog:=S.prog) e' D (by erw[←rs.length];omega) ?_;delta h2 od2 e2 D2 hs;injection (id D2)with _ es2 ep2 hd2 _ hp2 _;refine wpAny_bind (wpAny_lookBehind e2 ?_ ?_)
 ·erw[hd2];refine pastItsLine_dict ?_;have l1:=hp2.length
  have l2:=stored_length_le ps attr z
  have l3:es2.toList.length=es2.size:=by simp
  have l4:=rs.length
  erw[sizeLine_eq];exact IJ l3 l1 l2 l4 hz
 ·exact wpAny_pure (k σ' _ B q (bh.refl _) (I.upd h' hs e2 ⟨_,D2,rs.stored D.2.choose_spec.choose_spec.2.2.2 hz'⟩))
end
def TF (n:Nat) (fa:Addr) (as:List V) (σ:aj) (Q:V→aj→Prop):Prop:=
 ∀A B P s xs (R:Result→Shared→Prop),iD A n→aK B P σ s→cf B as xs→
  (∀v σ' y s' B',Q v σ'→bh B B'→aK B' P σ' s'→VR B' v y→R (.ok (.ret y)) s')→codeAny S.M A (.call (.ref fa) ⟨xs,[]⟩) R s
theorem aK.weakP {B P P':aS} {σ:aj} {s:Shared} (I:aK B P' σ s) (h:∀a o,P a=some o→P' a=some o):aK B P σ s:=
 { sub:=I.sub,base:=I.base,prot:=fun a o e=>I.prot a o (h a o e),disj:=fun a o e=>I.disj a o (h a o e),nd:=I.nd,gens:=I.gens,os:=I.os,
   sto:=fun p hp=>by
    obtain⟨x,y,o,e,c⟩:=I.sto p hp;refine⟨x,?_,o,e,c⟩;cases q:P p.1 with
    | none=>rfl
    | some z=>rw[h _ _ q]at y;cases y }
theorem iD.le {A:Around} {m n:Nat} (h:iD A n) (hm:m≤n):iD A m:=⟨h.hand,by have:=h.depth;exact IH this hm,by have:=h.units;exact IG this hm⟩
theorem iD.deeper {A:Around} {n:Nat} {env:Env} (h:iD A (n+1)):iD (A.deeper env) n:=⟨h.hand,by have:=h.depth;show A.depth+1+4*n≤980;exact Dz this,by have:=h.units;show A.units+3+40*n≤9800;exact IF this⟩
theorem iD.room {A:Around} {n:Nat} (h:iD A n):A.depth<recursionLimit:=by have:=h.depth;unfold recursionLimit;exact IE this
def lG:List (Str×NameKind)→List V→Addr→aI
 | [],_,_=>[]
 | (x,.local)::r,v::vs,c=>(x,.val v)::lG r vs c
 | (x,.local)::r,[],c=>(x,.un)::lG r [] c
 | (x,.cell)::r,[],c=>(x,.cel c)::lG r [] (c+1)
 | (x,.cell)::r,v::vs,c=>(x,.cel c)::lG r vs (c+1)
 | (x,_)::r,vs,c=>(x,.glb)::lG r vs c
def k4:List (Str×NameKind)→List V→Addr→aj
 | [],_,_=>[]
 | (_,.local)::r,v::vs,c=>k4 r vs c
 | (_,.local)::r,[],c=>k4 r [] c
 | (_,.cell)::r,[],c=>(c,.cellU)::k4 r [] (c+1)
 | (_,.cell)::r,v::vs,c=>(c,.cell v)::k4 r vs (c+1)
 | (_,_)::r,vs,c=>k4 r vs c
theorem jC:∀(l:List (Str×NameKind)) (vs:List V) (c:Addr),(lG l vs c).map (fun U=>U.1)=l.map (fun U=>U.1)
 | [],_,_=>rfl
 | (x,k)::r,vs,c=>by cases k<;>cases vs<;>exact congrArg (List.cons x) (jC r _ _)
theorem ci:∀(l:List (Str×NameKind)) (c:Addr) (acc:List (Str×Addr)) (p:Str×Addr),p∈acc→p∈cellsFrom c l acc
 | [],_,_,_,h=>h
 | (x,k)::r,c,acc,p,h=>by
  unfold cellsFrom;split
  ·exact ci r _ _ p (.tail _ h)
  ·exact ci r _ _ p h
theorem fv:∀(l:List (Str×NameKind)) (c:Addr) (acc:List (Str×Addr)),(l.map (fun U=>U.1)++acc.map (fun U=>U.1)).Nodup→((cellsFrom c l acc).map (fun U=>U.1)).Nodup
 | [],_,_,h=>h
 | (x,k)::r,c,acc,h=>by
  unfold cellsFrom;split
  ·refine fv r _ _ ?_;erw[List.map_cons];exact(List.Perm.nodup_iff (List.perm_middle (a:=x) (l₁:=r.map (fun U=>U.1)) (l₂:=acc.map (fun U=>U.1)))).mpr (by simpa using h)
  ·refine fv r _ _ ?_;exact(List.nodup_cons.mp h).2
theorem cH {β:Type} {l:List (Str×β)} (hn:(l.map (fun U=>U.1)).Nodup) {x:Str} {v:β} (h:(x,v)∈l):l.lookup x=some v:=by
 induction l with
 | nil=>injection h
 | cons p r ih=>
  obtain⟨y,u⟩:=p;simp only[List.map_cons,List.nodup_cons]at hn;rcases List.mem_cons.mp h with h|h
  ·injection h;simp
  ·have:(x==y)=false:=by
    erw[beq_eq_false_iff_ne];intro e;exact hn.1 (List.mem_map.mpr ⟨(x,v),h,e⟩)
   erw[List.lookup_cons,this];exact ih hn.2 h
theorem oy {kindOf:Str→Option NameKind} {x:Str}:∀(l:List (Str×Value)) (m:Str→Option Value),x∉l.map (fun U=>U.1)→bindL kindOf l m x=m x
 | [],_,_=>rfl
 | (y,u)::r,m,h=>by
  simp only[List.map_cons,List.mem_cons,not_or]at h;erw[bindL,oy r _ h.2];split<;>simp[h.1]
theorem kn {kindOf:Str→Option NameKind} {x:Str}:∀(l:List (Str×Value)) (m:Str→Option Value),x∉l.map (fun U=>U.1)→bindC kindOf l m x=m x
 | [],_,_=>rfl
 | (y,u)::r,m,h=>by
  simp only[List.map_cons,List.mem_cons,not_or]at h;erw[bindC,kn r _ h.2];split<;>simp[h.1]
theorem qj {kindOf:Str→Option NameKind} {x:Str} {v:Value} (hk:kindOf x=some .local):∀(l:List (Str×Value)) (m:Str→Option Value),(l.map (fun U=>U.1)).Nodup→(x,v)∈l→bindL kindOf l m x=some v
 | (y,u)::r,m,hn,h=>by
  simp only[List.map_cons,List.nodup_cons]at hn;rcases List.mem_cons.mp h with h|h
  ·injection h;erw[bindL,oy r _ hn.1];simp[hk]
  ·erw[bindL];exact qj hk r _ hn.2 h
theorem qk {kindOf:Str→Option NameKind} {x:Str} {v:Value} (hk:kindOf x≠some .local):∀(l:List (Str×Value)) (m:Str→Option Value),(l.map (fun U=>U.1)).Nodup→(x,v)∈l→bindC kindOf l m x=some v
 | (y,u)::r,m,hn,h=>by
  simp only[List.map_cons,List.nodup_cons]at hn;rcases List.mem_cons.mp h with h|h
  ·injection h;erw[bindC,kn r _ hn.1];simp[hk]
  ·erw[bindC];exact qk hk r _ hn.2 h
section
variable {prog:Program} {w:World} {B:aS}
def yv (B:aS) (L:List (Str×NameKind)) (Z:List (Str×Value)) (CL:List (Str×Addr)) (ST:aj) (x:Str):Sl→Prop
 | .un=>(x,.local)∈L∧x∉Z.map (fun U=>U.1)
 | .val v=>(x,.local)∈L∧∃y,(x,y)∈Z∧VR B v y
 | .cel d=>(x,.cell)∈L∧(x,d)∈CL∧((∃v y,(x,y)∈Z∧VR B v y∧(d,.cell v)∈ST)∨(x∉Z.map (fun U=>U.1)∧(d,.cellU)∈ST))
 | .fre _=>False
 | .glb=>(x,.globalImplicit)∈L
theorem yv.mono {L L':List (Str×NameKind)} {Z Z':List (Str×Value)} {CL CL':List (Str×Addr)} {ST ST':aj} {x:Str} (h1:∀k,(x,k)∈L→(x,k)∈L') (h2:∀y,(x,y)∈Z→(x,y)∈Z')
 (h3:x∉Z.map (fun U=>U.1)→x∉Z'.map (fun U=>U.1)) (h4:∀d,(x,d)∈CL→(x,d)∈CL') (h5:∀q∈ST,q∈ST'):∀{s:Sl},yv B L Z CL ST x s→yv B L' Z' CL' ST' x s
 | .un,h=>⟨h1 _ h.1,h3 h.2⟩
 | .val _,h=>⟨h1 _ h.1,h.2.elim fun y q=>⟨y,h2 _ q.1,q.2⟩⟩
 | .cel _,h=>⟨h1 _ h.1,h4 _ h.2.1,h.2.2.elim (fun q=>.inl (q.elim fun v q=>⟨v,q.elim fun y q=>⟨y,h2 _ q.1,q.2.1,h5 _ q.2.2⟩⟩)) fun q=>.inr ⟨h3 q.1,h5 _ q.2⟩⟩
 | .glb,h=>h1 _ h
theorem yd (l:List (Str×NameKind)):∀(vs:List V) (xs:List Value) (c:Addr) (acc:List (Str×Addr)),cf B vs xs→vs.length≤l.length→(∀p∈l.take vs.length,p.2=.local∨p.2=.cell)→(∀p∈l,p.2=.local∨p.2=.cell∨p.2=.globalImplicit)→(l.map (fun U=>U.1)).Nodup→
 ∀p∈lG l vs c,yv B l ((l.map (fun U=>U.1)).zip xs) (cellsFrom c l acc) (k4 l vs c) p.1 p.2:=by
 induction l with
 | nil=>intro _ _ _ _ _ _ _ _ _ p hp;cases hp
 | cons a r ih0=>
  obtain⟨x,k⟩:=a;intro vs xs c acc hv hl hk ha hn p hp;delta B r x k vs xs c acc p at ih0 hv hl hk ha hn hp;have hn':x∉r.map (fun U=>U.1)∧(r.map (fun U=>U.1)).Nodup:=by simpa [List.nodup_cons]using hn
  have ha':∀p∈r,p.2=.local∨p.2=.cell∨p.2=.globalImplicit:=fun p hp=>ha p (.tail _ hp)
  cases hv with
  | nil=>
   have ih:=fun c acc=>ih0 [] [] c acc .nil (Nat.zero_le _) (fun p hp=>by rw[List.length_nil,List.take_zero]at hp;cases hp) ha' hn'.2
   have up:∀{CL CL':List (Str×Addr)} {ST ST':aj} {q:Str×Sl},(∀d,(q.1,d)∈CL→(q.1,d)∈CL')→(∀p∈ST,p∈ST')→yv B r ((r.map (fun U=>U.1)).zip []) CL ST q.1 q.2→yv B ((x,k)::r) ((((x,k)::r).map (fun U=>U.1)).zip []) CL' ST' q.1 q.2:=
    fun h4 h5=>yv.mono (fun U h=>.tail _ h) (fun U h=>by rw[List.zip_nil_right]at h;cases h) (fun U h=>by rw[List.zip_nil_right]at h;cases h) h4 h5
   have e:=ha (x,k) (.head _)
   dsimp only at e;rcases e with e|e|e
   ·subst e;rcases List.mem_cons.mp hp with rfl|hp
    ·exact⟨.head _,fun h=>by rw[List.zip_nil_right]at h;cases h⟩
    ·exact up (fun U h=>h) (fun U h=>h) (ih c acc p hp)
   ·subst e;rcases List.mem_cons.mp hp with rfl|hp
    ·exact⟨.head _,ci r _ _ _ (.head _),.inr ⟨fun h=>(by rw[List.zip_nil_right]at h;cases h),.head _⟩⟩
    ·exact up (fun U h=>h) (fun U h=>.tail _ h) (ih (c+1) ((x,c)::acc) p hp)
   ·subst e;rcases List.mem_cons.mp hp with rfl|hp
    ·exact .head _
    ·exact up (fun U h=>h) (fun U h=>h) (ih c acc p hp)
  | @cons v y vs ys hv1 hv2=>
   have ih:=fun c acc=>ih0 vs ys c acc hv2 (Nat.le_of_succ_le_succ hl) (fun p hp=>hk p (.tail _ hp)) ha' hn'.2
   have up:∀{CL CL':List (Str×Addr)} {ST ST':aj} {q:Str×Sl} {c':Addr},q∈lG r vs c'→(∀d,(q.1,d)∈CL→(q.1,d)∈CL')→(∀p∈ST,p∈ST')→yv B r ((r.map (fun U=>U.1)).zip ys) CL ST q.1 q.2→yv B ((x,k)::r) ((((x,k)::r).map (fun U=>U.1)).zip (y::ys)) CL' ST' q.1 q.2:=
    fun {_ _ _ _ q c'} hq h4 h5=>yv.mono (fun U h=>.tail _ h) (fun U h=>.tail _ h) (fun hz h=>(List.mem_cons.mp h).elim (fun e=>hn'.1 (by
     have:=List.mem_map_of_mem (f:=(fun U=>U.1)) hq
     rw[jC,e]at this;exact this)) hz) h4 h5
   have e:=hk (x,k) (.head _)
   dsimp only at e;rcases e with e|e
   ·subst e;rcases List.mem_cons.mp hp with rfl|hp
    ·exact⟨.head _,y,.head _,hv1⟩
    ·exact up hp (fun U h=>h) (fun U h=>h) (ih c acc p hp)
   ·subst e;rcases List.mem_cons.mp hp with rfl|hp
    ·exact⟨.head _,ci r _ _ _ (.head _),.inl ⟨v,y,.head _,hv1,.head _⟩⟩
    ·exact up hp (fun U h=>h) (fun U h=>.tail _ h) (ih (c+1) ((x,c)::acc) p hp)
end
theorem gE:∀(l:List (Str×NameKind)) (vs:List V) (c:Addr),∀p∈k4 l vs c,@LE.le Nat instLENat c p.1
 | [],_,_,p,h=>by injection h
 | (x,k)::r,vs,c,p,h=>by
  have ih:=fun vs c=>gE r vs c p
  cases k<;>cases vs<;>first
   | exact ih _ _ h
   | (rcases List.mem_cons.mp h with rfl|h;exact Nat.le_refl _;exact Nat.le_of_succ_le (ih _ _ h))
theorem jW:∀(l:List (Str×NameKind)) (vs:List V) (c:Addr),((k4 l vs c).map (fun U=>U.1)).Nodup
 | [],_,_=>.nil
 | (x,k)::r,vs,c=>by
  have ih:=fun vs c=>jW r vs c
  have hc:∀vs,c∉(k4 r vs (c+1)).map (fun U=>U.1):=fun vs h=>by
   obtain⟨p,hp,e⟩:=List.mem_map.mp h;have:=gE r vs (c+1) p hp
   rw[show p.1=c from e]at this;exact absurd this (Nat.not_succ_le_self c)
  cases k<;>cases vs<;>first
   | exact ih _ _
   | exact List.nodup_cons.mpr ⟨hc _,ih _ _⟩
theorem rI:∀(l:List (Str×NameKind)) (vs:List V) (c:Addr),∀p∈k4 l vs c,∃x,(x,.cel p.1)∈lG l vs c∧(p.2=.cellU∨∃v,p.2=.cell v)
 | [],_,_,p,h=>by injection h
 | (x,k)::r,vs,c,p,h=>by
  have ih:=fun vs c h=>rI r vs c p h
  cases k<;>cases vs<;>first
   | exact(ih _ _ h).elim fun y hy=>⟨y,.tail _ hy.1,hy.2⟩
   | (rcases List.mem_cons.mp h with rfl|h
      ·first|exact⟨x,.head _,.inl rfl⟩|exact⟨x,.head _,.inr ⟨_,rfl⟩⟩
      ·obtain⟨y,h1,h2⟩:=ih _ _ h;exact⟨y,.tail _ h1,h2⟩)
theorem lW {α β:Type}:∀(l:List α) (r:List β),(l.zip r).map (fun U=>U.1)=l.take r.length
 | [],_=>by simp
 | _::_,[]=>by simp
 | a::l,b::r=>by simp[lW l r]
def xM (k:NameKind):Bool:=match k with|.local=>true|.cell=>true|.globalImplicit=>true|_=>false
def BC (k:NameKind):Bool:=match k with|.local=>true|.cell=>true|_=>false
def KO (fd:FuncData) (n:Nat):Bool:=
 !fd.scope.isCoroutine&&!fd.scope.isGenerator&&fd.scope.kind==.function&&fd.globals==mainGlobals&&fd.builtins==builtinsNs&&fd.closure.isEmpty
 && decide (n≤fd.scope.names.length)&&fd.scope.names.all (fun p=>xM p.2&&!(p.1==("__debug__" :Str)))&&(fd.scope.names.take n).all (fun p=>BC p.2)
def kc:List Str→Bool
 | []=>true
 | x::r=>!r.contains x&&kc r
theorem ka:∀{l:List Str},kc l=true→l.Nodup
 | [],_=>.nil
 | x::r,h=>by
  simp only[kc,Bool.and_eq_true,Bool.not_eq_true',List.contains_eq_mem,decide_eq_false_iff_not]at h;exact List.nodup_cons.mpr ⟨h.1,ka h.2⟩
section
variable {n:Nat} {σ:aj} {Q:V→aj→Prop}
def Lw (Q:V→aj→Prop):Fl→aI→aj→Prop
 | .ret v,_,σ=>Q v σ
 | .next,_,σ=>Q .none σ
 | _,_,_=>False
theorem Lj {P:List Value→Prop} (h:P []):∀xs:List Value,xs.length=0→P xs:=fun xs e=>by
 cases xs with
 | nil=>exact h
 | cons a l=>exact nomatch e
theorem xI {n:Nat} {P:List Value→Prop} (h:∀a xs,xs.length=n→P (a::xs)):∀xs:List Value,xs.length=n+1→P xs:=fun xs e=>by
 cases xs with
 | nil=>exact nomatch e
 | cons a l=>exact h a l (Nat.succ.inj e)
theorem kO {P:List Value→Prop} (h:∀a,P [a]):∀xs:List Value,xs.length=1→P xs:=xI fun a=>Lj (P:=fun xs=>P (a::xs)) (h a)
theorem pn {P:List Value→Prop} (h:∀a b,P [a,b]):∀xs:List Value,xs.length=2→P xs:=xI fun a=>kO (P:=fun xs=>P (a::xs)) (h a)
theorem md {P:List Value→Prop} (h:∀a b c,P [a,b,c]):∀xs:List Value,xs.length=3→P xs:=xI fun a=>pn (P:=fun xs=>P (a::xs)) (h a)
theorem xJ {P:List Value→Prop} (h:∀a b c d,P [a,b,c,d]):∀xs:List Value,xs.length=4→P xs:=xI fun a=>md (P:=fun xs=>P (a::xs)) (h a)
theorem Li {P:List Value→Prop} (h:∀a b c d e,P [a,b,c,d,e]):∀xs:List Value,xs.length=5→P xs:=xI fun a=>xJ (P:=fun xs=>P (a::xs)) (h a)
theorem aW {fa:Addr} {fo:Obj} {fd:FuncData} {body:List Stmt} {vs:List V} (ho:S.K.lookup fa=some fo) (hd:fo.data=.func fd) (hbody:fd.body=.stmts body) (hcd:codeIn S.K fd.code fd.qualname=true)
 (hok:KO fd vs.length=true) (hnd:kc (fd.scope.names.map (fun U=>U.1))=true)
 (hbind:∀xs:List Value,xs.length=vs.length→bindArgs fd ⟨xs,[]⟩=pure ((fd.scope.names.map (fun U=>U.1)).zip xs))
 (h:∀c,dl n body (lG fd.scope.names vs c) (k4 fd.scope.names vs c++σ) (Lw Q)):TF (n+1) fa vs σ Q:=by
 delta n σ Q fa fo fd body vs ho hd hbody hcd hok hnd hbind h at ⊢
 delta A B P s xs R hA I hxs k
 simp only[KO,Bool.and_eq_true,Bool.not_eq_true',beq_iff_eq,List.isEmpty_iff,decide_eq_true_eq,List.all_eq_true] at hok
 obtain⟨⟨⟨⟨⟨⟨⟨⟨o1,o2⟩,o3⟩,o4⟩,o5⟩,o6⟩,o7⟩,o8⟩,o9⟩:=hok
 have hN:=ka hnd
 have hlen:=hxs.length
 have hpk:∀p∈fd.scope.names.take vs.length,p.2=.local∨p.2=.cell:=fun p hp=>by
  have:=o9 p hp
  revert this
  cases p.2<;>simp[BC]
 have hak:∀p∈fd.scope.names,p.2=.local∨p.2=.cell∨p.2=.globalImplicit:=fun p hp=>by
  have:=(o8 p hp).1
  revert this
  cases p.2<;>simp[xM]
 have keyz:(((fd.scope.names.map (fun U=>U.1)).zip xs).map (fun U=>U.1))=(fd.scope.names.map (fun U=>U.1)).take xs.length:=lW _ _
 have nodz:(((fd.scope.names.map (fun U=>U.1)).zip xs).map (fun U=>U.1)).Nodup:=by erw[keyz];exact hN.sublist (List.take_sublist _ _)
 refine codeAny_call_function hA.room (I.kin _ _ ho) hd o1 o2 hbody (codeRec_of I.kin hcd) ?_
 erw[hbind xs hlen.symm]
 refine wpAny_pure ?_
 erw[o6]
 have cellsN:=fun c=>fv fd.scope.names c [] (by simpa using hN)
 refine wpAny_newFunctionEnv_cells o3 (fun p hp=>?_) fun env henv s' X=>?_
 delta p at hp
 ·obtain⟨i,hi⟩:=List.mem_iff_getElem?.mp hp
  rw[List.getElem?_zip_eq_some] at hi
  obtain⟨h1,h2⟩:=hi
  rw[List.getElem?_map,Option.map_eq_some_iff] at h1
  obtain⟨q,hq,hq'⟩:=h1
  have hm:q∈fd.scope.names.take vs.length:=by
   erw[hlen]
   refine List.mem_of_getElem? (i:=i) ?_
   erw[List.getElem?_take_of_lt]
   ·exact hq
   ·exact(List.getElem?_eq_some_iff.mp h2).1
  have hm':q∈fd.scope.names:=List.mem_of_mem_take hm
  rcases hpk q hm with e|e
  ·left;erw[←hq'];exact cH hN (by erw[←e];exact hm')
  ·right
   refine⟨by erw[←hq'];exact cH hN (by erw[←e];exact hm'),?_⟩
   have:∀(l:List (Str×NameKind)) (c:Addr) (acc:List (Str×Addr)) (x:Str),(x,NameKind.cell)∈l→∃d,(x,d)∈cellsFrom c l acc:=by
    intro l
    induction l with
    | nil=>intro c acc x hx;injection hx
    | cons y r ih=>
     intro c acc x hx
     obtain⟨yn,yk⟩:=y
     unfold cellsFrom
     rcases List.mem_cons.mp hx with hx|hx
     ·injection hx
      simp only[beq_self_eq_true,if_true]
      exact⟨c,ci _ _ _ _ (.head _)⟩
     ·split
      ·exact ih _ _ _ hx
      ·exact ih _ _ _ hx
   obtain⟨d,hd⟩:=this fd.scope.names (s.heap.objs.size+1) [] p.1 (by erw[←hq',←e];exact hm')
   erw[cH (cellsN _) hd];rfl
 ·subst henv
  obtain⟨h',tk,rfl,keep⟩:=X.done
  have EM:=yd fd.scope.names vs xs (s.heap.objs.size+1) [] hxs o7 hpk hak hN
  obtain⟨oL,hoL,NL⟩:=zV.of X.toInCall.ns
  have kin:∀{x:Str} {kd:NameKind},(x,kd)∈fd.scope.names→(newEnv fd.scope s.heap.objs.size fd.globals (cellsFrom (s.heap.objs.size+1) fd.scope.names []) (fd.qualname++".<locals>.") (some fa) fd.code none fd.builtins).kindOf x=some kd:=fun hm=>cH hN hm
  have freshL:B s.heap.objs.size=none∧P s.heap.objs.size=none:=⟨I.fresh.1,I.fresh.2.1⟩
  have newA:∀a,s.heap.objs.size≤a→B a=none∧P a=none∧∀p∈σ,p.1≠a:=fun a ha=>by
   refine⟨?_,?_,fun p hp e=>?_⟩
   ·cases q:B a with
    | none=>rfl
    | some o=>exact absurd (Heap.lt_size (I.base _ _ q)) (Nat.not_lt.mpr ha)
   ·cases q:P a with
    | none=>rfl
    | some o=>exact absurd (Heap.lt_size (I.prot _ _ q)) (Nat.not_lt.mpr ha)
   ·exact absurd (I.live hp) (by erw[e];exact Nat.not_lt.mpr ha)
  refine⟨I.lim.keeps keep,codeAny_func ?_⟩
  have I1:aK B (put P s.heap.objs.size oL) (k4 fd.scope.names vs (s.heap.objs.size+1)++σ) { s with heap:=h',toks:=tk }:=by
   refine⟨I.sub,fun a o e=>keep _ _ (I.base a o e),fun a o e=>?_,fun a o e=>?_,fun p hp=>?_,?_,I.gens,I.os⟩
   ·by_cases q:a=s.heap.objs.size
    ·subst q;rw[av] at e;cases e;exact hoL
    ·rw[aD q] at e;exact keep _ _ (I.prot _ _ e)
   ·by_cases q:a=s.heap.objs.size
    ·erw[q];exact freshL.1
    ·rw[aD q] at e;exact I.disj a o e
   ·rcases List.mem_append.mp hp with hp|hp
    ·have ha:=gE _ _ _ p hp
     have hne:p.1≠s.heap.objs.size:=Nat.ne_of_gt ha
     have hle:s.heap.objs.size≤p.1:=Nat.le_of_lt ha
     refine⟨(newA p.1 hle).1,by erw[aD hne];exact(newA p.1 hle).2.1,?_⟩
     obtain⟨x,hx,_⟩:=rI _ _ _ p hp
     have:=EM _ hx
     obtain⟨m1,m2,m3⟩:=this
     have hlk:=cH (cellsN _) m2
     obtain⟨o,ho1,ho2⟩:=X.cell _ _ hlk
     refine⟨o,ho1,?_⟩
     have uniq:∀c,(p.1,c)∈k4 fd.scope.names vs (s.heap.objs.size+1)→p.2=c:=fun c hc=>by
      have nd:=jW fd.scope.names vs (s.heap.objs.size+1)
      have e1:∀(l:aj),(l.map (fun U=>U.1)).Nodup→∀p q:Addr×bp,p∈l→q∈l→p.1=q.1→p=q:=by
       intro l
       induction l with
       | nil=>intro _ p q hp;injection hp
       | cons z r ih=>
        intro hn p q hp hq e
        simp only[List.map_cons,List.nodup_cons] at hn
        rcases List.mem_cons.mp hp with hp2|hp2
        ·rcases List.mem_cons.mp hq with hq2|hq2
         ·erw[hp2,hq2]
         ·exact absurd (List.mem_map.mpr ⟨q,hq2,by erw[←e,hp2]⟩) hn.1
        ·rcases List.mem_cons.mp hq with hq2|hq2
         ·exact absurd (List.mem_map.mpr ⟨p,hp2,by erw[e,hq2]⟩) hn.1
         ·exact ih hn.2 p q hp2 hq2 e
      exact congrArg Prod.snd (e1 _ nd p (p.1,c) hp hc rfl)
     rcases m3 with⟨v,y,z1,z2,z3⟩|⟨z1,z2⟩
     ·erw[uniq _ z3]
      refine⟨y,?_,z2⟩
      erw[ho2,qk (by erw[kin m1];simp) _ _ nodz z1]
     ·erw[uniq _ z2]
      show o.data=.cell none
      erw[ho2,kn _ _ z1]
    ·obtain⟨x,y,o,e,c⟩:=I.sto p hp
     exact⟨x,by erw[aD ((newA _ (Nat.le_refl _)).2.2 p hp)];exact y,o,keep _ _ e,c⟩
   ·erw[List.nodup_cons]
    refine⟨fun hm=>?_,?_⟩
    ·rw[List.map_append] at hm
     rcases List.mem_append.mp hm with hm|hm
     ·obtain⟨p,hp,e⟩:=List.mem_map.mp hm
      have h1:=gE _ _ _ p hp
      obtain⟨a,o,h2,h3⟩:=S.sysm
      have h4:=Heap.lt_size (I.h1k _ _ h3)
      rw[e] at h1
      exact absurd (Nat.lt_trans h2 h4) (Nat.not_lt.mpr (Nat.le_of_lt h1))
     ·exact(List.nodup_cons.mp I.nd).1 hm
    erw[List.map_append,List.nodup_append]
    refine⟨jW _ _ _,I.nd',fun a ha b hb e=>?_⟩
    obtain⟨p,hp,rfl⟩:=List.mem_map.mp ha
    obtain⟨q,hq,rfl⟩:=List.mem_map.mp hb
    have h1:=gE _ _ _ p hp
    have h2:=I.live hq
    rw[e] at h1
    exact absurd h2 (Nat.not_lt.mpr (Nat.le_of_lt h1))
  have I2:et B P (newEnv fd.scope s.heap.objs.size fd.globals (cellsFrom (s.heap.objs.size+1) fd.scope.names []) (fd.qualname++".<locals>.") (some fa) fd.code none fd.builtins) (lG fd.scope.names vs (s.heap.objs.size+1)) (k4 fd.scope.names vs (s.heap.objs.size+1)++σ) { s with heap:=h',toks:=tk }:=by
   refine⟨⟨oL,_,I1,NL,⟨fun p hp=>?_,by erw[jC];exact hN,fun p hp=>?_⟩⟩,freshL.2,⟨o3,o4,o5⟩⟩
   ·have:=EM p hp
    obtain⟨px,ps⟩:=p
    cases ps with
    | un=>exact kin this.1
    | val v=>
     obtain⟨h1,y,h2,h3⟩:=this
     exact⟨kin h1,y,qj (kin h1) _ _ nodz h2,h3⟩
    | cel c=>exact⟨kin this.1,cH (cellsN _) this.2.1⟩
    | fre c=>exact this.elim
    | glb=>exact kin this
   ·have:p.1∈(lG fd.scope.names vs (s.heap.objs.size+1)).map (fun U=>U.1):=List.mem_map_of_mem hp
    rw[jC] at this
    obtain⟨q,hq,e⟩:=List.mem_map.mp this
    erw[←e];exact(o8 q hq).2
  refine wpAny_mono (h _ (A.deeper _) B P _ _ _ hA.deeper I2 fun f η' σ' x s' B' q H I' hf=>?_) (fun f s' r=>r) (fun U U e=>e.elim)
  obtain⟨P',I3,_⟩:=I'.lift
  have I3:=I3.weakP (P:=P) fun a o e=>by
   by_cases q:a=s.heap.objs.size
   ·rw[q,freshL.2] at e;cases e
   ·exact(aD (o:=P') q).trans e
  cases f with
  | ret v=>
   cases x with
   | ret y=>exact k v σ' y s' B' q H I3 hf
   | _=>exact hf.elim
  | next=>
   cases x with
   | next=>exact k .none σ' .none s' B' q H I3 .none
   | _=>exact hf.elim
  | _=>exact q.elim
end
section
variable {n:Nat} {η:aI} {σ:aj} {Q:Fl→aI→aj→Prop}
theorem aw (q:Q .next η σ):dl n [] η σ Q:=fun A B P env s R hA I k=>wpAny_execs_nil (k .next η σ .next s B q (bh.refl _) I trivial)
def gy (n:Nat) (rest:List Stmt) (Q:Fl→aI→aj→Prop):Fl→aI→aj→Prop
 | .next,η,σ=>dl n rest η σ Q
 | f,η,σ=>Q f η σ
theorem bq {st:Stmt} {rest:List Stmt} (h:TS n st η σ (gy n rest Q)):dl n (st::rest) η σ Q:=fun A B P env s R hA I k=>
 wpAny_execs_cons (h A B P env s _ hA I fun f η' σ' x s' B' q H I' hf=>by
  cases f with
  | next=>
   cases x with
   | next=>exact q A B' P env s' R hA I' fun f η2 σ2 x s2 B2 q H2 I2 hf=>k f η2 σ2 x s2 B2 q (H.trans H2) I2 hf
   | _=>exact hf.elim
  | brk=>cases x<;>first|exact hf.elim|exact k .brk η' σ' .brk s' B' q H I' trivial
  | cont=>cases x<;>first|exact hf.elim|exact k .cont η' σ' .cont s' B' q H I' trivial
  | ret v=>cases x<;>first|exact hf.elim|exact k (.ret v) η' σ' (.ret _) s' B' q H I' hf)
theorem ul {t:Expr} {a b:List Stmt} {pos:Pos} (h:TB n t η σ fun c σ₁=>if c then dl n a η σ₁ Q else dl n b η σ₁ Q):TS n (.If t a b pos) η σ Q:=fun A B P env s R hA I k=>
 wpAny_If (h A B P env s _ hA I fun c σ₁ s₁ B₁ h₁ H₁ I₁=>by
  cases c
  ·exact h₁ A B₁ P env s₁ _ hA I₁ fun f η2 σ2 x s2 B2 q H2 I2 hf=>k f η2 σ2 x s2 B2 q (H₁.trans H2) I2 hf
  ·exact h₁ A B₁ P env s₁ _ hA I₁ fun f η2 σ2 x s2 B2 q H2 I2 hf=>k f η2 σ2 x s2 B2 q (H₁.trans H2) I2 hf)
theorem tq {e:Expr} {pos:Pos} (h:TE n e η σ fun v σ₁=>Q (.ret v) η σ₁):TS n (.Return (some e) pos) η σ Q:=fun A B P env s R hA I k=>
 wpAny_Return_some (h A B P env s _ hA I fun v σ' x s' B' q H I' hx=>k (.ret v) η σ' (.ret x) s' B' q H I' hx)
theorem uo {pos:Pos} (q:Q .cont η σ):TS n (.Continue pos) η σ Q:=fun A B P env s R hA I k=>wpAny_Continue (k .cont η σ .cont s B q (bh.refl _) I trivial)
theorem yA {e:Expr} {pos:Pos} (h:TE n e η σ fun U σ₁=>Q .next η σ₁) (hs:autoParam (∀env,swapsWith e none pos.line env=pure false) tI):TS n (.Expr e pos) η σ Q:=fun A B P env s R hA I k=>by
 erw[exec_Expr env e pos (by unfold interactive;erw[I.ok.kind];rfl) (hs env)];refine wpAny_bind (wpAny_standAt (wpAny_bind (h A B P env s _ hA I fun v σ' x s' B' q H I' hx=>wpAny_dropValue (k .next η σ' .next s' B' q H I' trivial))))
inductive bP:aI→Str→V→aI→Prop
 | un {x:Str} {v:V} {η:aI}:bP ((x,.un)::η) x v ((x,.val v)::η)
 | val {x:Str} {u v:V} {η:aI}:bP ((x,.val u)::η) x v ((x,.val v)::η)
 | there {p:Str×Sl} {x:Str} {v:V} {η η':aI}:bP η x v η'→bP (p::η) x v (p::η')
theorem bP.keys {η η':aI} {x:Str} {v:V} (h:bP η x v η'):η'.map (fun U=>U.1)=η.map (fun U=>U.1):=by
 induction h with
 | un=>rfl
 | val=>rfl
 | there _ ih=>simp[ih]
theorem bP.was {η η':aI} {x:Str} {v:V} (h:bP η x v η'):(x,Sl.un)∈η∨∃u,(x,Sl.val u)∈η:=by
 induction h with
 | un=>exact .inl (.head _)
 | val=>exact .inr ⟨_,.head _⟩
 | there _ ih=>rcases ih with ih|⟨u,ih⟩;exact .inl (.tail _ ih);exact .inr ⟨u,.tail _ ih⟩
theorem bP.mem {η η':aI} {x:Str} {v:V} (h:bP η x v η') (hn:(η.map (fun U=>U.1)).Nodup) {p:Str×Sl} (hp:p∈η'):p=(x,.val v)∨(p∈η∧p.1≠x):=by
 have aux:∀{q:Str×Sl} {r:aI},((q::r).map (fun U=>U.1)).Nodup→∀p∈r,p.1≠q.1:=fun hn p hp e=>by
  simp only[List.map_cons,List.nodup_cons]at hn;exact hn.1 (e▸List.mem_map_of_mem hp)
 induction h with
 | un=>
  rcases List.mem_cons.mp hp with rfl|hp
  ·exact .inl rfl
  ·exact .inr ⟨.tail _ hp,aux hn p hp⟩
 | val=>
  rcases List.mem_cons.mp hp with rfl|hp
  ·exact .inl rfl
  ·exact .inr ⟨.tail _ hp,aux hn p hp⟩
 | @there q x v η η' hh ih=>
  have hn2:(η.map (fun U=>U.1)).Nodup:=by simp only[List.map_cons,List.nodup_cons]at hn;exact hn.2
  rcases List.mem_cons.mp hp with rfl|hp
  ·refine .inr ⟨.head _,fun e=>?_⟩;rcases hh.was with h|⟨u,h⟩<;>exact aux hn _ h e.symm
  ·rcases ih hn2 hp with h|⟨h,h'⟩
   ·exact .inl h
   ·exact .inr ⟨.tail _ h,h'⟩
theorem et.store {A:Around} {B P:aS} {env:Env} {s:Shared} {x:Str} {v:V} {y:Value} {η':aI} {R:Unit→Shared→Prop} (I:et B P env η σ s) (hs:bP η x v η') (hv:VR B v y)
 (k:∀s',et B P env η' σ s'→R () s'):wpAny S.M A (storeName env x y) R ft s:=by
 delta η σ A B P env s x v y η' R I hs hv k at ⊢;obtain ⟨⟨oL,m,I0,N,E⟩,pl,ok⟩:=I;delta pl ok oL m I0 N E at *
 have hk:env.kindOf x=some .local:=by
  rcases hs.was with h | ⟨u,h⟩
  ·exact E.slots _ h
  ·exact (E.slots _ h).1
 refine wpAny_storeName_local hk (N.at (I0.prot _ _ (av ..))) (?_) (by erw [ok.kind];rfl);delta h' hn hsb;injection (zV.of hn) with o' ho' N';refine k _ ⟨⟨o',_,I0.reput hsb ho',N',⟨fun p hp=>?_,by erw [hs.keys];exact E.nd,fun p hp=>?_⟩⟩,pl,ok⟩
 ·rcases hs.mem E.nd hp with rfl | ⟨hp,hne⟩
  ·exact ⟨hk,y,by simp,hv⟩
  ·have:=E.slots p hp
   obtain ⟨px,ps⟩:=p;delta px ps at *;cases ps with
   | val u=>obtain ⟨h1,z,h2,h3⟩:=this;exact ⟨h1,z,by simp only at hne ⊢;erw [if_neg hne];exact h2,h3⟩
   | un=>exact this
   | cel c=>exact this
   | fre c=>exact this
   | glb=>exact this
 ·rcases hs.mem E.nd hp with rfl | ⟨hp,hne⟩
  ·rcases hs.was with h | ⟨u,h⟩
   ·have:=E.nodbg (x,.un) h;exact this
   ·have:=E.nodbg (x,.val u) h;exact this
  ·exact E.nodbg _ hp
theorem dr {x:Str} {pos:Pos} {v:V} {η':aI} {Q:aI→aj→Prop} (hs:bP η x v η') (q:Q η' σ):TA n (.Name x pos) v η σ Q:=fun A B P env s y R hA I hy k=>
 wpAny_assign_Name (I.store hs hy fun s' I'=>k η' σ s' B q (bh.refl _) I')
theorem qs {x:Str} {pos:Pos} {v:V} {c:Addr} {ct:bp} {σ':aj} {Q:aI→aj→Prop} (h:gx η x (.cel c)) (hu:fK σ c ct (.cell v) σ') (hc:ct=.cellU∨∃u,ct=.cell u) (q:Q η σ'):TA n (.Name x pos) v η σ Q:=by
 delta n η σ x pos v c ct σ' Q h hu hc q at ⊢;delta A B P env s y R hA I hy k;obtain⟨⟨oL,m,I0,N,E⟩,pl,ok⟩:=id I;delta pl ok oL m I0 N E at *;injection (E.slots _ h.mem)with hk hl;injection (I0.sto _ hu.mem)with _ _ o ho hcr;refine wpAny_assign_Name ?_
 have hcell:∃v₀,s.heap.IsCell c v₀:=by
  rcases hc with rfl|⟨u,rfl⟩
  ·exact⟨_,o,ho,hcr⟩
  ·obtain⟨z,hz,_⟩:=hcr;exact⟨_,o,ho,hz⟩
 obtain⟨v₀,hcell⟩:=hcell;delta v₀ hcell at *;refine wpAny_storeName_cell ok.kind hk hl hcell ?_;delta h' hv hsb;injection hv with o' ho' ku;have I1:=I0.upd (t:=s.toks) hu hsb ho' ⟨y,ku,hy⟩
 exact k η σ' _ B q (bh.refl _) ⟨⟨oL,m,I1,N,E⟩,pl,ok⟩
end
section
variable {n:Nat} {η:aI} {σ:aj} {Q:Fl→aI→aj→Prop}
theorem eN {t value:Expr} {pos:Pos} (h:TE n value η σ fun v σ₁=>TA n t v η σ₁ fun η' σ'=>Q .next η' σ')
 (hs:autoParam (∀env,swapsWithSole [t] value pos.line env=pure false) tI) (hw:autoParam (∀env,swappedStores [t] value env=pure none) tI)
 (ht:autoParam (∀env,(assignEach [t] env).map (fun U=>U.2)=[assign t env]) tI):TS n (.Assign [t] value pos) η σ Q:=fun A B P env s R hA I k=>by
 erw[exec_Assign,hs]
 refine wpAny_bind (wpAny_standAt (wpAny_bind (wpAny_pure ?_)))
 erw[if_neg Bool.false_ne_true]
 refine wpAny_bind (h A B P env s _ hA I fun v σ₁ x s₁ B₁ h₁ H₁ I₁ hx=>?_)
 erw[hw,ht]
 refine wpAny_bind (wpAny_pure ?_)
 show wpAny S.M A (do assign t env x;pure .next) R ft s₁
 exact wpAny_bind (h₁ A B₁ P env s₁ x _ hA I₁ hx fun η' σ' s' B' q H I'=>wpAny_pure (k .next η' σ' .next s' B' q (H₁.trans H) I' trivial))
theorem bS {o:Expr} {attr:Str} {pos:Pos} {v:V} {Q:aI→aj→Prop} (h:TE n o η σ fun ov σ₁=>T3 n (fun x U z=>setAttr x attr z) ov .none v σ₁ fun σ'=>Q η σ'):TA n (.Attribute o attr pos) v η σ Q:=fun A B P env s x R hA I hx k=>by
 show wpAny S.M A (do let ov ←holding [x] (eval o env);standAt pos.atName;holding [x,ov] (setAttr ov attr x);release [x,ov] []) R ft s
 refine wpAny_bind (wpAny_holding (h A B P env s _ hA I fun ov σ₁ y s₁ B₁ h₁ H₁ I₁ hy=>wpAny_bind (wpAny_standAt (wpAny_bind (wpAny_holding ?_)))));exact h₁.lift hA I₁ hy .none (hx.mono H₁) fun σ' s' B' q H I'=>gw (k η σ' s' B' q (H₁.trans H) I')
theorem aU {o i:Expr} {pos:Pos} {v:V} {Q:aI→aj→Prop} (h:TE n o η σ fun ov σ₁=>TE n i η σ₁ fun iv σ₂=>T3 n setItem ov iv v σ₂ fun σ'=>Q η σ'):TA n (.Subscript o i pos) v η σ Q:=fun A B P env s x R hA I hx k=>by
 erw[assign_Subscript];refine wpAny_bind (wpAny_holding (h A B P env s _ hA I fun ov σ₁ y s₁ B₁ h₁ H₁ I₁ hy=>wpAny_bind (wpAny_holding (h₁ A B₁ P env s₁ _ hA I₁ fun iv σ₂ z s₂ B₂ h₂ H₂ I₂ hz=>?_))));refine wpAny_bind (wpAny_standAt (wpAny_bind (wpAny_holding ?_)));exact h₂.lift hA I₂ (hy.mono H₂) hz (hx.mono (H₁.trans H₂)) fun σ' s' B' q H I'=>gw (k η σ' s' B' q (H₁.trans (H₂.trans H)) I')
def BH (n:Nat):List Expr→List V→aI→aj→(aI→aj→Prop)→Prop
 | t::ts,v::vs,η,σ,Q=>TA n t v η σ fun η' σ'=>BH n ts vs η' σ' Q
 | [],[],η,σ,Q=>Q η σ
 | _,_,_,_,_=>False
theorem BH.run {Q:aI→aj→Prop} {ts:List Expr}:∀{vs:List V} {η:aI} {σ:aj},BH n ts vs η σ Q→(∀env,(assignEach ts env).map (fun U=>U.2)=ts.map fun t=>assign t env)→
 ∀A B P env s xs (R:Unit→Shared→Prop),iD A n→et B P env η σ s→cf B vs xs→
 (∀η' σ' s' B',Q η' σ'→bh B B'→et B' P env η' σ' s'→R () s')→wpAny S.M A (assignInOrder (ts.map fun t=>assign t env) xs) R ft s:=by
 delta n Q ts at ⊢
 induction ts with
 | nil=>
  intro vs η σ h _ A B P env s xs R hA I hx k
  cases vs with
  | nil=>exact cf.i0 hx (wpAny_pure (k _ _ s B h (bh.refl _) I))
  | cons=>exact h.elim
 | cons t ts ih=>
  intro vs η σ h he A B P env s xs R hA I hx k
  cases vs with
  | nil=>exact h.elim
  | cons v vs=>
   refine cf.icons hx fun x xs h1 h2=>?_
   show wpAny S.M A (do holding _ (assign t env _);assignInOrder (ts.map fun t=>assign t env) _) R ft s
   refine wpAny_bind (wpAny_holding (h A B P env s _ _ hA I h1 fun η' σ' s' B' q H I'=>?_))
   refine ih q (fun env=>?_) A B' P env s' _ R hA I' (h2.mono H) fun η2 σ2 s2 B2 q2 H2 I2=>k η2 σ2 s2 B2 q2 (H.trans H2) I2
   cases t<;>exact(List.cons.inj (he env)).2
theorem mM {es:List Expr} {k:Nat} {pos:Pos} {vs:List V} {Q:aI→aj→Prop} (h:BH n es vs η σ Q) (hl:autoParam (es.length=vs.length) tR)
 (he:autoParam (∀env,(assignEach es env).map (fun U=>U.2)=es.map fun t=>assign t env) tI) (hn:autoParam (∀env,(assignEach es env).length=es.length) tI) (hst:autoParam (∀env,(assignEach es env).findIdx? (fun U=>U.1)=none) tI):
 TA n (.Tuple es k pos) (.tup vs) η σ Q:=fun A B P env s x R hA I hx kk=>by
 cases hx with
 | @tup a _ items m e r=>
  obtain⟨P',I0⟩:=I.inv0
  refine wpAny_assign_Tuple hA.hand ⟨_,I0.base _ _ e,rfl,m,rfl⟩ (by erw[hn,hl];simpa using r.length) (hst env) fun h' he'=>?_
  erw[he]
  exact h.run he A B P env _ _ R hA (I.keeps (t:=s.toks) (d:=s.drawn) fun b o eb=>he' b o (Nat.ne_of_lt (Heap.lt_size eb)) eb) r kk
theorem lk {x:Str} {p1 pos:Pos} {op:Operator} {value:Expr} {u:V} (hx:gx η x (.val u)) (h:TE n value η σ fun v σ₁=>T2 n (inplaceOp op) u v σ₁ fun r σ₂=>∃η',bP η x r η'∧Q .next η' σ₂) :
 TS n (.AugAssign (.Name x p1) op value pos) η σ Q:=fun A B P env s R hA I k=>by
 obtain ⟨⟨oL,m,I0,N,E⟩,pl,ok⟩:=id I;obtain ⟨hk,y,hy,hv⟩:=E.slots _ hx.mem;refine wpAny_AugAssign_Name (wpAny_loadName_local ok.kind hk (N.at (I0.prot _ _ (av ..))) hy ?_);refine h A B P env s _ hA I fun v σ₁ z s₁ B₁ h₁ H₁ I₁ hz=>h₁.lift hA I₁ (hv.mono H₁) hz fun r σ₂ t s₂ B₂ q H₂ I₂ ht=>?_
 obtain ⟨η',hs,q⟩:=q;exact I₂.store hs ht fun s' I'=>k .next η' σ₂ .next s' B₂ q (H₁.trans H₂) I' trivial
theorem mj {o:Expr} {attr:Str} {p1 pos:Pos} {op:Operator} {value:Expr} (h:TE n o η σ fun ov σ₀=>T1 n (fun x=>getAttr x attr true) ov σ₀ fun old σ₁=>TE n value η σ₁ fun v σ₂=>T2 n (inplaceOp op) old v σ₂ fun r σ₃=>
 T3 n (fun x U z=>setAttr x attr z) ov .none r σ₃ fun σ'=>Q .next η σ'):
 TS n (.AugAssign (.Attribute o attr p1) op value pos) η σ Q:=fun A B P env s R hA I k=>by
 show wpAny S.M A (do
  standAt pos
  let ov ←eval o env
  let new ←holding [ov] do
   standAt p1.atName
   let old ←getAttr ov attr true
   let v ←holding [old] (eval value env)
   standAt pos
   operate [old,v] (inplaceOp op old v)
  standAt p1.atName
  holding [new,ov] (setAttr ov attr new)
  release [new,ov] []
  pure .next) R ft s
 refine wpAny_bind (wpAny_standAt (wpAny_bind (h A B P env s _ hA I fun ov σ₀ x s₀ B₀ h₀ H₀ I₀ hx=>wpAny_bind (wpAny_holding (wpAny_bind (wpAny_standAt (wpAny_bind ?_)))))))
 refine h₀.lift hA I₀ hx fun old σ₁ y s₁ B₁ h₁ H₁ I₁ hy=>wpAny_bind (wpAny_holding (h₁ A B₁ P env s₁ _ hA I₁ fun v σ₂ z s₂ B₂ h₂ H₂ I₂ hz=>wpAny_bind (wpAny_standAt (m9 ?_))))
 refine h₂.lift hA I₂ (hy.mono H₂) hz fun r σ₃ t s₃ B₃ h₃ H₃ I₃ ht=>wpAny_bind (wpAny_standAt (wpAny_bind (wpAny_holding ?_)))
 exact h₃.lift hA I₃ (hx.mono (H₁.trans (H₂.trans H₃))) .none ht fun σ' s' B' q H I'=>wpAny_bind (gw (wpAny_pure (k .next η σ' .next s' B' q (H₀.trans (H₁.trans (H₂.trans (H₃.trans H)))) I' trivial)))
end
section
variable {n:Nat} {σ:aj} {Q:V→aj→Prop}
theorem jk {i j:Int} (q:Q (.int (i+j)) σ):T2 n (inplaceOp .Add) (.int i) (.int j) σ Q:=fun A B P s x y R hA I hx hy k=>by
 injection hx;injection hy;exact wpAny_iadd_int (k _ σ _ _ B q (bh.refl _) (I.toks _) (.int _ _))
theorem t6 {prog:Program} {w:World} {A:Around} {E:Value→Shared→Prop} {s:Shared} {l b:Addr} {items items2:Array Value} {m m2:Nat} {Q:Value→Shared→Prop} (hl:s.heap.get? l=some (fu items m)) (hb:s.heap.get? b=some (fu items2 m2))
 (h0:¬(!items.isEmpty&&Builtin.List.listTooLong (items.size+items2.size))=true) (h1:items.size≤sizeLine) (h2:items.size+items2.size≤sizeLine+1)
 (h:Q (.ref l) { s with heap:=s.heap.update l (Obj.mapSeq fun x=>x++items2) }):wpAny (model prog w) A (inplaceOp .Add (.ref l) (.ref b)) Q E s:=by
 delta prog w A E s l b items items2 m m2 Q hl hb h0 h1 h2 h at ⊢
 have hT:s.TypeIs (.ref l) "list":=⟨_,hl,rfl⟩
 have hTb:s.TypeIs (.ref b) "list":=⟨_,hb,rfl⟩
 unfold inplaceOp
 refine wpAny_holding ?_
 have hfi:fillsInplaceSlot (.type "list") "add" (Operator.Add==.Add)=pure false:=by
  unfold fillsInplaceSlot
  show(typeLookup (.type "list") (dunderI "add") >>= fun fi=>pure (fi.isSome&&!isSeqSlot fi))=pure false
  erw[F.slot_list_iadd.lookup]
  show(pure (true&&!isSeqSlot (some (.builtin "list.__iadd__"))):Sem Bool)=_
  erw[show isSeqSlot (some (.builtin "list.__iadd__"))=true by decide +kernel]
  rfl
 have hsi:seqSlot? (.type "list") (dunderI "add")=pure (some (.builtin "list.__iadd__")):=PySem.seqSlot_of F.slot_list_iadd.lookup (by decide +kernel)
 refine wpAny_bind (wpAny_typeOf hT (wpAny_bind (wpAny_of_eq hfi ?_)))
 show wpAny _ A (if false=true then _ else _) Q E s
 erw[if_neg Bool.false_ne_true]
 refine wpAny_bind (wpAny_binaryOp1_none (nm:="add") hT hTb noFill_list_add ?_)
 refine wpAny_bind (wpAny_of_eq hsi ?_)
 refine wpAny_bind (wpAny_rule ?_)
 exact call_meets F.slot_list_iadd hT F.entry_list_iadd (F.args_list_iadd_2 _ _) (AutoSeq1.list___iadd___list_list_0 l items m b items2 m2 h0 h1 h2) ⟨hl,hb,h⟩
theorem i6 {a:Addr} {b:V} {vs us:List V} {σ':aj} (u:fK σ a (.lst vs) (.lst (vs++us)) σ') (hb:aM σ b (.lst us)) (q:Q (.loc a) σ') (hz:vs.length+us.length≤1000000):T2 n (inplaceOp .Add) (.loc a) b σ Q:=fun A B P s x y R hA I hx hy k=>by
 injection hx;obtain⟨_,_,o,e,items,m,rfl,rs⟩:=I.sto _ u.mem;obtain⟨b',o2,rfl,e2,items2,m2,rfl,rs2⟩:=I.view hb hy;have l1:vs.length=items.size:=by have:=rs.length;simpa using this
 have l2:us.length=items2.size:=by have:=rs2.length;simpa using this
 refine t6 e e2 ?_ (by erw[sizeLine_eq];exact DB hz l1) (by erw[sizeLine_eq];exact DA hz l1 l2) ?_
 ·have:Builtin.List.listTooLong (items.size+items2.size)=false:=by
   unfold Builtin.List.listTooLong;erw[decide_eq_false_iff_not,sizeLine_eq];exact DC hz l1 l2
  erw[this,Bool.and_false];exact Bool.false_ne_true
 ·exact k _ σ' _ _ B q (bh.refl _) (I.upd (t:=s.toks) u (Heap.SameBut.update ..) (Heap.get?_update_self _ e rfl) ⟨items++items2,_,rfl,by simpa using rs.append rs2⟩) (.loc _)
end
section
variable {n:Nat} {η:aI} {σ:aj}
theorem aK.turn {B P:aS} {s:Shared} {I:Addr} {o:Obj} (J:aK B (put P I o) σ s) (hP:P I=none) {h':Heap} {t:Nat} (k:∀b ob,b≠I→s.heap.get? b=some ob→h'.get? b=some ob):
 aK B P σ { s with heap:=h',toks:=t }:=by
 have bI:B I=none:=J.disj I o (av ..)
 refine⟨J.sub,fun a ob e=>k _ _ (fun q=>?_) (J.base _ _ e),fun a ob e=>k _ _ (fun q=>?_) (J.prot a ob ?_),fun a ob e=>?_,fun p hp=>?_,J.nd,J.gens,J.os⟩
 ·rw[q,bI]at e;cases e
 ·rw[q,hP]at e;cases e
 ·by_cases q:a=I
  ·rw[q,hP]at e;cases e
  ·erw[aD q];exact e
 ·by_cases q:a=I
  ·erw[q];exact bI
  ·exact J.disj a ob (by erw[aD q];exact e)
 ·obtain⟨x,y,ob,e,c⟩:=J.sto p hp;have q:p.1≠I:=fun q=>by rw[q,av]at y;cases y
  exact⟨x,by rw[aD q]at y;exact y,ob,k _ _ q e,c⟩
theorem gM {P:aS} {a b:Addr} {o o':Obj} (h:a≠b):put (put P a o) b o'=put (put P b o') a o:=by
 funext x;unfold put;by_cases h1:x=a<;>by_cases h2:x=b<;>simp[h1,h2]
 ·exact absurd (h1.symm.trans h2) h
 ·intro e;exact absurd e h
 ·intro e;exact absurd e.symm h
theorem aK.protect {B P:aS} {s:Shared} {I:Addr} {o:Obj} (J:aK B P σ s) (e:s.heap.get? I=some o) (hB:B I=none) (hs:∀p∈σ,p.1≠I):aK B (put P I o) σ s where
 sub:=J.sub
 base:=J.base
 prot:=fun a ob q=>by
  by_cases h:a=I
  ·subst h;rw[av]at q;cases q;exact e
  ·rw[aD h]at q;exact J.prot a ob q
 disj:=fun a ob q=>by
  by_cases h:a=I
  ·erw[h];exact hB
  ·rw[aD h]at q;exact J.disj a ob q
 sto:=fun p hp=>by
  obtain⟨x,y,r⟩:=J.sto p hp
  exact⟨x,by erw[aD (hs p hp)];exact y,r⟩
 nd:=J.nd
 gens:=J.gens
 os:=J.os
theorem et.turn {B P:aS} {env:Env} {s:Shared} {I:Addr} {o:Obj} (J:et B (put P I o) env η σ s) (hP:P I=none) {h':Heap} {t:Nat} (k:∀b ob,b≠I→s.heap.get? b=some ob→h'.get? b=some ob):
 I≠env.locals∧B I=none∧(∀p∈σ,p.1≠I)∧et B P env η σ { s with heap:=h',toks:=t }:=by
 delta η σ B P env s I o J hP h' t k at ⊢;obtain⟨⟨oL,m,J0,N,E⟩,pl,ok⟩:=J;delta pl ok oL m J0 N E at *;have hne:I≠env.locals:=fun q=>by rw[←q,av]at pl;cases pl
 rw[gM hne]at J0;have hP':put P env.locals oL I=none:=by erw[aD hne];exact hP
 refine⟨hne,J0.disj I o (av ..),fun p hp q=>?_,⟨oL,m,J0.turn hP' k,N,E⟩,?_,ok⟩
 ·injection (J0.sto p hp)with x y r;rw[q,av]at y;cases y
 ·rw[aD (Ne.symm hne)]at pl;exact pl
theorem et.protect {B P:aS} {env:Env} {s:Shared} {I:Addr} {o:Obj} (J:et B P env η σ s) (e:s.heap.get? I=some o) (hB:B I=none) (hL:I≠env.locals) (hs:∀p∈σ,p.1≠I):et B (put P I o) env η σ s:=by
 obtain⟨⟨oL,m,J0,N,E⟩,pl,ok⟩:=J;exact⟨⟨oL,m,by erw[gM hL];exact J0.protect e hB hs,N,E⟩,by erw[aD (Ne.symm hL)];exact pl,ok⟩
inductive iC:V→List V→Prop
 | lst {vs:List V}:iC (.lst vs) vs
 | dI {kvs:List (Int×V)}:iC (.dI kvs) (kvs.map fun p=>.int p.1)
 | dS {kvs:List (Str×V)}:iC (.dS kvs) (kvs.map fun p=>.str p.1)
 | rng {k:Int}:iC (.rng k) ((List.range k.toNat).map fun i=>.int (i:Nat))
 | tup {vs:List V}:iC (.tup vs) vs
structure yo (A:Around) (B:aS) (I:Addr) (vs:List V) (St:Nat→Heap→Prop):Prop where
 frame:∀i h h',St i h→(∀o,h.get? I=some o→h'.get? I=some o)→(∀b o,B b=some o→h.get? b=some o)→(∀b o,B b=some o→h'.get? b=some o)→St i h'
 obj:∀i h,St i h→∃o T,h.get? I=some o∧o.cls=.type T∧(["enumerate","zip","dict_itemiterator","dict_reverseitemiterator","odict_iterator","itertools.zip_longest","itertools.pairwise"].contains T)=false
 item:∀i (s:Shared) (Q:Option Value→Shared→Prop) (v:V),vs[i]?=some v→St i s.heap→(∀b o,B b=some o→s.heap.get? b=some o)→
  (∀x h' tk,VR B v x→St (i+1) h'→(∀b o,b≠I→s.heap.get? b=some o→h'.get? b=some o)→Q (some x) { s with heap:=h',toks:=tk })→wpAny S.M A (pyNext (.ref I)) Q ft s
 done:∀(s:Shared) (Q:Option Value→Shared→Prop),St vs.length s.heap→(∀b o,B b=some o→s.heap.get? b=some o)→
  (∀h' tk,(∀b o,b≠I→s.heap.get? b=some o→h'.get? b=some o)→Q none { s with heap:=h',toks:=tk })→wpAny S.M A (pyNext (.ref I)) Q ft s
 self:∀i (s:Shared) (Q:Value→Shared→Prop),St i s.heap→Q (.ref I) s→wpAny S.M A (pyIter (.ref I)) Q ft s
theorem vA {A:Around} {B:aS} {I ax:Addr} {vs:List V} {items:Array Value} {m:Nat} (hA:A.handled=none) (e:B ax=some (fu items m)) (r:cf B vs items.toList) (hne:ax≠I):
 yo A B I vs (fun i h=>h.IsListIter I ax i) where
 frame:=fun i h h' st k1 U U=>st.at k1
 obj:=fun i h st=>by obtain⟨o,e,c,_⟩:=st;exact⟨o,_,e,c,by decide +kernel⟩
 item:=fun i s Q v hv st hb k=>by
  obtain⟨x,hx,hr⟩:=r.get hv
  refine wpAny_pyNext_list_item st ⟨_,hb _ _ e,rfl,m,rfl⟩ (x:=x) (by simpa using hx) fun h' st' hs=>k x h' s.toks hr st' fun b o q eb=>(hs.2 b q).trans eb
 done:=fun s Q st hb k=>by
  refine wpAny_pyNext_list_end hA st ⟨_,hb _ _ e,rfl,m,rfl⟩ (by have:=r.length;simp at this;simp[this]) fun h' he=>k h' s.toks fun b o q eb=>he b o q eb
 self:=fun i s Q st q=>wpAny_pyIter_listiter st q
theorem tj {A:Around} {B:aS} {I ax:Addr} {vs:List V} {items:Array Value} {m:Nat} (hA:A.handled=none) (e:B ax=some (mD items m)) (r:cf B vs items.toList) (hne:ax≠I):
 yo A B I vs (fun i h=>h.IsTupleIter I ax i) where
 frame:=fun i h h' st k1 U U=>st.at k1
 obj:=fun i h st=>by obtain⟨o,e,c,_⟩:=st;exact⟨o,_,e,c,by decide +kernel⟩
 item:=fun i s Q v hv st hb k=>by
  obtain⟨x,hx,hr⟩:=r.get hv
  refine wpAny_pyNext_tuple_item st ⟨_,hb _ _ e,rfl,m,rfl⟩ (x:=x) (by simpa using hx) fun h' st' hs=>k x h' s.toks hr st' fun b o q eb=>(hs.2 b q).trans eb
 done:=fun s Q st hb k=>by
  refine wpAny_pyNext_tuple_end hA st ⟨_,hb _ _ e,rfl,m,rfl⟩ (by have:=r.length;simp at this;simp[this]) fun h' he=>k h' s.toks fun b o q eb=>he b o q eb
 self:=fun i s Q st q=>wpAny_pyIter_tupleiter st q
theorem pB {K:Type} [DecidableEq K] {knd:PySem.KeyKind S.prog S.w K} {A:Around} {B:aS} {I d:Addr} {kvs:List (K×Value)} {ep:Nat} {o:Obj} {vs:List V} (f:K→V) (hf:∀k x,knd.is k x=true→VR B (f k) x) (hA:A.handled=none)
 (e:B d=some o) (D:∀h:Heap,h.get? d=some o→h.DictAt knd d kvs ep) (hne:d≠I) (hvs:vs=kvs.map fun p=>f p.1):yo A B I vs (fun i h=>h.IsKeyIter I d i kvs.length ep) where
 frame:=fun i h h' st k1 U U=>st.at k1
 obj:=fun i h st=>by obtain⟨o,e,c,_⟩:=st;exact⟨o,_,e,c,by decide +kernel⟩
 item:=fun i s Q v hv st hb k=>by
  subst hvs
  rw[List.getElem?_map,Option.map_eq_some_iff] at hv
  obtain⟨⟨ky,y⟩,hy,rfl⟩:=hv
  refine wpAny_pyNext_dict_item st (D _ (hb _ _ e)) hy fun key h' hk st' hs=>k key h' s.toks (hf _ _ hk) st' fun b o q eb=>(hs.2 b q).trans eb
 done:=fun s Q st hb k=>by
  subst hvs
  refine wpAny_pyNext_dict_end hA (by simpa using st) (D _ (hb _ _ e)) (by simp) fun h' he=>k h' s.toks fun b o q eb=>he b o q eb
 self:=fun i s Q st q=>wpAny_pyIter_keyiter st q
theorem tm {A:Around} {B:aS} {I:Addr} {k:Int} (hA:A.handled=none):yo A B I ((List.range k.toNat).map fun i=>V.int (i:Nat)) (fun i h=>IsRangeIter h I ((0:Int)+(i:Nat)*1) ((k.toNat:Int)-(i:Nat)) 1):=by
 delta A B I k hA at ⊢;have W:=Walks.range (prog:=S.prog) (w:=S.w) (A:=A) hA I 0 1 k.toNat
 refine⟨fun i h h' st k1 U U=>k1 _ st,fun i h st=>⟨_,_,st,rfl,by decide +kernel⟩,fun i s Q v hv st hb kk=>?_,fun s Q st hb kk=>?_,fun i s Q st q=>wpAny_pyIter_rangeiter st q⟩
 ·have hi:i<k.toNat:=by
   have:=(List.getElem?_eq_some_iff.mp hv).1
   simpa using this
  have hv':v=.int (i:Nat):=by
   rw[List.getElem?_map,List.getElem?_range hi] at hv;simpa using hv.symm
  subst hv';refine W.item i s Q ft hi st fun x h' tk hx st' kp=>kk x h' tk ?_ st' fun b o q e=>kp b o (by simpa using q) e
  obtain⟨t,rfl⟩:=hx;have:(0:Int)+(i:Nat)*1=(i:Nat):=by exact Ku
  erw[this];exact .int _ _
 ·refine W.done s Q ft (by simpa using st) fun h' tk kp=>kk h' tk fun b o q e=>kp b o (by simpa using q) e
theorem t5 {M:Model} {A:Around} {E:Value→Shared→Prop} {s:Shared} {α:Type} {c:Prop} [Decidable c] {m₁ m₂:Sem α} {Q:α→Shared→Prop} (hc:¬c) (h:wpAny M A m₂ Q E s):wpAny M A (ite c m₁ m₂) Q E s:=by erw[if_neg hc];exact h
theorem lg {M:Model} {A:Around} {E:Value→Shared→Prop} {s:Shared} {target:Expr} {I:Addr} {v:Value} {o:Obj} {T:String} {Q:Unit→Shared→Prop} (e:s.heap.get? I=some o) (hc:o.cls=.type T)
 (hT:(["enumerate","zip","dict_itemiterator","dict_reverseitemiterator","odict_iterator","itertools.zip_longest","itertools.pairwise"].contains T)=false) (h:Q () s):wpAny M A (letOwnedTupleGo target (.ref I) v) Q E s:=by
 obtain⟨cls,dict,data,slots⟩:=o;cases hc
 cases target<;>first
  | exact wpAny_pure h
  | (cases v<;>first
   | exact wpAny_pure h
   | (refine wpAny_bind (wpAny_load e ?_)
      cases data<;>first
       | exact wpAny_pure h
       | exact t5 (fun q=>Bool.noConfusion (hT.symm.trans (Bool.and_eq_true_iff.mp q).1)) (wpAny_pure h)))
end
section
variable {n:Nat} {η:aI} {σ:aj}
def oJ:V→Prop
 | .rng k=>k<2 ^ 40∧-(2 ^ 40)<k
 | _=>True
theorem nV {A:Around} {B P:aS} {s:Shared} {l:V} {vs:List V} {x:Value} {R:Value→Shared→Prop} (hA:A.handled=none) (I:aK B P σ s) (h:iC l vs) (hr:oJ l) (r:VR B l x)
 (k:∀St o,o.isFreed=false→yo A B s.heap.objs.size vs St→St 0 (s.heap.push o)→R (.ref s.heap.objs.size) { s with heap:=s.heap.push o }):wpAny S.M A (pyIter x) R ft s:=by
 delta σ A B P s l vs x R hA I h hr r k at ⊢;have ne:∀{a o},B a=some o→a≠s.heap.objs.size:=fun e q=>by rw[q,I.fresh.1]at e;cases e
 cases h with
 | lst=>
  cases r with
  | lst e r=>exact wpAny_pyIter_list ⟨_,I.base _ _ e,rfl,_,rfl⟩ (k _ _ rfl (vA hA e r (ne e)) ⟨_,Heap.get?_push_size _ rfl,rfl,rfl⟩)
 | tup=>
  cases r with
  | tup e r=>exact wpAny_pyIter_tuple ⟨_,I.base _ _ e,rfl,_,rfl⟩ (k _ _ rfl (tj hA e r (ne e)) ⟨_,Heap.get?_push_size _ rfl,rfl,rfl⟩)
 | dI=>
  cases r with
  | @dI a o kvs ps e hs D r=>
   obtain⟨D1,es,ep,D2,D3,D4,D5⟩:=D;have hD:∀h:Heap,h.get? a=some o→h.DictAt (intKind S.prog S.w) a ps ep:=fun h e=>⟨o,es,e,D1,D2,D3,D4,D5⟩
   refine wpAny_pyIter_dict hs (hD _ (I.base _ _ e)) (k _ _ rfl (pB (knd:=intKind S.prog S.w) (kvs:=ps) (ep:=ep) V.int (fun i x hx=>?_) hA e hD (ne e) ?_) ⟨_,Heap.get?_push_size _ rfl,rfl,rfl⟩)
   ·obtain⟨t,rfl⟩:=Value.isInt_shape hx;exact .int _ _
   ·have:=congrArg (List.map V.int) r.keys
    simp only[List.map_map]at this;exact this
 | dS=>
  cases r with
  | @dS a o kvs ps e hs D r=>
   obtain⟨D1,es,ep,D2,D3,D4,D5⟩:=D;have hD:∀h:Heap,h.get? a=some o→h.DictAt (PySem.strKind S.prog S.w) a ps ep:=fun h e=>⟨o,es,e,D1,D2,D3,D4,D5⟩
   refine wpAny_pyIter_dict hs (hD _ (I.base _ _ e)) (k _ _ rfl (pB (knd:=PySem.strKind S.prog S.w) (kvs:=ps) (ep:=ep) V.str (fun i x hx=>?_) hA e hD (ne e) ?_) ⟨_,Heap.get?_push_size _ rfl,rfl,rfl⟩)
   ·obtain⟨t,rfl⟩:=Value.isStrOf_shape hx;exact .str _ _
   ·have:=congrArg (List.map V.str) r.keys
    simp only[List.map_map]at this;exact this
 | @rng j=>
  cases r with
  | @rng a _ t u v e=>
   have hsz:Builtin.Range.rangeSize 0 j 1=(j.toNat:Int):=by erw[rangeSize_one];split<;>(first|exact Kt (by assumption)|exact Ks (by assumption))
   refine wpAny_pyIter_range (I.base _ _ e) ?_ (k _ _ rfl (tm hA) ?_)
   ·obtain⟨h1,h2⟩:=hr;unfold Builtin.Range.small;erw[hsz];unfold Builtin.Range.rangeFitsLong;simp;exact LV h1 h2
   ·erw[hsz];exact Heap.get?_push_size _ rfl
theorem dN {α:Type} {M:Model} {A:Around} {t:Sem α} {Q:α→Shared→Prop} {E:Value→Shared→Prop} {s:Shared} (h:wpAny M A t Q ft s):wpAny M A t Q E s:=wpAny_mono h (fun U U h=>h) (fun U U e=>e.elim)
def CE (Q:Fl→aI→aj→Prop) (J:aI→aj→Prop):Fl→aI→aj→Prop
 | .next,η,σ=>J η σ
 | .cont,η,σ=>J η σ
 | .brk,η,σ=>Q .next η σ
 | .ret v,η,σ=>Q (.ret v) η σ
set_option tactic.hygienic true in
theorem um {target iter:Expr} {body:List Stmt} {pos:Pos} {Q:Fl→aI→aj→Prop}
 (h:TE n iter η σ fun l σ₁=>oJ l∧∃vs,∃J:Nat→aI→aj→Prop,iC l vs∧J 0 η σ₁∧
  (∀i v η' σ',vs[i]?=some v→J i η' σ'→TA n target v η' σ' fun η₂ σ₂=>dl n body η₂ σ₂ (CE Q (J (i+1))))∧(∀η' σ',J vs.length η' σ'→Q .next η' σ'))
 (hs:autoParam (∀env x,foldedSetIterable iter env x=pure x) tI):TS n (.For target iter body [] pos) η σ Q:=by
 delta n η σ target iter body pos Q h hs at ⊢;delta A B P env s R hA I k;refine wpAny_For (h A B P env s _ hA I fun l σ₁ x s₁ B₁ h₁ H₁ I₁ hx=>?_) (hs env);obtain⟨hr,vs,J,hi,hJ,turn,fin⟩:=h₁;obtain⟨oL,I0,_⟩:=I₁.lift;rename_i y5_0;delta l σ₁ x s₁ B₁ vs J oL at H₁ I₁ hx hr hi hJ turn fin I0 y5_0;refine nV hA.hand I0 hi hr hx fun St o hfr W st=>?_
 delta St o at hfr W st;have fresh:=I0.fresh
 have hL:s₁.heap.objs.size≠env.locals:=fun q=>by rw[q,av] at fresh;cases fresh.2.1
 have hP:P s₁.heap.objs.size=none:=by have:=fresh.2.1;rwa[aD hL] at this
 refine codeAny_forLoop_any (fun m s'=>∃i η' σ' B' o',m+i=vs.length∧J i η' σ'∧bh B₁ B'∧et B' (put P s₁.heap.objs.size o') env η' σ' s'∧St i s'.heap) ?_ vs.length
  ⟨0,η,σ₁,B₁,o,rfl,hJ,bh.refl _,(I₁.keeps (t:=s₁.toks) (d:=s₁.drawn) (h':=s₁.heap.push o) fun U U e=>Heap.get?_push_of_some _ e).protect (Heap.get?_push_size _ hfr) fresh.1 hL fresh.2.2,st⟩
 rintro m s' ⟨i,η',σ',B',o',hm,hJ,H',I',st'⟩;obtain⟨P',J0⟩:=I'.inv0;delta m s' i η' σ' B' o' P' at hm hJ H' I' st' J0;have hb:∀b o,B₁ b=some o→s'.heap.get? b=some o:=fun b o e=>J0.base b o (H' b o e)
 rcases Nat.lt_or_ge i vs.length with hlt|hge
 ·have hv:vs[i]?=some vs[i]:=by simp[hlt]
  refine dN (W.item i s' _ _ hv st' hb fun y h' tk hy st₂ keep=>?_);obtain⟨-,bI,sI,I₂⟩:=I'.turn hP (t:=tk) keep;obtain⟨o₂,T,ho₂,hc,hT⟩:=W.obj _ _ st₂;have I₃:=I₂.protect (o:=o₂) ho₂ bI hL sI
  refine lg ho₂ hc hT ?_;refine dN (turn i _ η' σ' hv hJ A B' _ env _ y _ hA I₃ (hy.mono H') fun η₂ σ₂ s₂ B₂ q H₂ I₄=>?_);refine dN (q A B₂ _ env s₂ _ hA I₄ fun f η₃ σ₃ z s₃ B₃ q₃ H₃ I₅ hf=>?_)
  have stEnd:St (i+1) s₃.heap:=by
   obtain⟨P5,J5⟩:=I₅.inv0;refine W.frame _ _ _ st₂ (fun ob eb=>?_) (fun b ob eb=>?_) (fun b ob eb=>J5.base _ _ ((H'.trans (H₂.trans H₃)) _ _ eb))
   ·obtain⟨⟨oL5,m5,J6,_⟩,_⟩:=I₅;have:=J6.prot s₁.heap.objs.size o₂ (by erw[aD hL,av])
    rw[←eb,ho₂] at *;simpa using this
   ·obtain⟨P3,J3⟩:=I₃.inv0;exact J3.base _ _ (H' _ _ eb)
  have back:et B₃ P env η₃ σ₃ s₃:=(I₅.turn hP (t:=s₃.toks) (h':=s₃.heap) fun b ob U e=>e).2.2.2
  cases f with
  | next=>
   cases z with
   | next=>exact⟨m-1,by exact zo hm hlt,i+1,η₃,σ₃,B₃,o₂,by exact zn hm hlt,q₃,H'.trans (H₂.trans H₃),I₅,stEnd⟩
   | _=>exact hf.elim
  | cont=>
   cases z with
   | cont=>exact⟨m-1,by exact zo hm hlt,i+1,η₃,σ₃,B₃,o₂,by exact zn hm hlt,q₃,H'.trans (H₂.trans H₃),I₅,stEnd⟩
   | _=>exact hf.elim
  | brk=>
   cases z with
   | brk=>exact k .next η₃ σ₃ .next s₃ B₃ q₃ (H₁.trans (H'.trans (H₂.trans H₃))) back trivial
   | _=>exact hf.elim
  | ret v=>
   cases z with
   | ret y=>exact k (.ret v) η₃ σ₃ (.ret y) s₃ B₃ q₃ (H₁.trans (H'.trans (H₂.trans H₃))) back hf
   | _=>exact hf.elim
 ·have hi':i=vs.length:=by exact DE hge hm
  subst hi';refine dN (W.done s' _ st' hb fun h' tk keep=>?_);obtain⟨-,-,-,I₂⟩:=I'.turn hP (t:=tk) keep;exact wpAny_execs_nil (k .next η' σ' .next _ B' (fin _ _ hJ) (H₁.trans H') I₂ trivial)
theorem qo {target iter:Expr} {body:List Stmt} {pos:Pos} {Q:Fl→aI→aj→Prop} (J:Nat→aI→aj→Prop)
 (h:TE n iter η σ fun l σ₁=>oJ l∧∃vs,iC l vs∧J 0 η σ₁∧
  (∀i v η' σ',vs[i]?=some v→J i η' σ'→TA n target v η' σ' fun η₂ σ₂=>dl n body η₂ σ₂ (CE Q (J (i+1))))∧(∀η' σ',J vs.length η' σ'→Q .next η' σ'))
 (hs:autoParam (∀env x,foldedSetIterable iter env x=pure x) tI):TS n (.For target iter body [] pos) η σ Q:=
 um (fun A B P env s R hA I k=>h A B P env s R hA I fun l σ' x s' B' q=>k l σ' x s' B' (let ⟨h1,vs,h2,h3⟩:=q;⟨h1,vs,J,h2,h3⟩)) hs
theorem iF {test:Expr} {body:List Stmt} {pos:Pos} {Q:Fl→aI→aj→Prop} (J:Nat→aI→aj→Prop) (m:Nat) (h0:J m η σ)
 (turn:∀k η' σ',J k η' σ'→TB n test η' σ' fun b σ₁=>if b then dl n body η' σ₁ (CE Q fun η₂ σ₂=>∃j,j<k∧J j η₂ σ₂)else Q .next η' σ₁):TS n (.While test body [] pos) η σ Q:=by
 delta n η σ test body pos Q J m h0 turn at ⊢;delta A B P env s R hA I k;refine wpAny_While (codeAny_whileLoop (fun m s'=>∃η' σ' B',J m η' σ'∧bh B B'∧et B' P env η' σ' s') ?_ m ⟨η,σ,B,h0,bh.refl _,I⟩);rintro m s' ⟨η',σ',B',hJ,H',I'⟩;delta m s' η' σ' B' at hJ H' I';refine dN (turn m η' σ' hJ A B' P env s' _ hA I' fun b σ₁ s₁ B₁ q H₁ I₁=>?_);cases b
 ·simp only[Bool.false_eq_true,if_false]at q ⊢;exact wpAny_execs_nil (k .next η' σ₁ .next s₁ B₁ q (H'.trans H₁) I₁ trivial)
 ·simp only[if_true]at q ⊢;refine dN (q A B₁ P env s₁ _ hA I₁ fun f η₃ σ₃ z s₃ B₃ q₃ H₃ I₅ hf=>?_);cases f with
  | next=>
   cases z with
   | next=>obtain⟨j,hj,q⟩:=q₃;exact⟨j,hj,η₃,σ₃,B₃,q,H'.trans (H₁.trans H₃),I₅⟩
   | _=>exact hf.elim
  | cont=>
   cases z with
   | cont=>obtain⟨j,hj,q⟩:=q₃;exact⟨j,hj,η₃,σ₃,B₃,q,H'.trans (H₁.trans H₃),I₅⟩
   | _=>exact hf.elim
  | brk=>
   cases z with
   | brk=>exact k .next η₃ σ₃ .next s₃ B₃ q₃ (H'.trans (H₁.trans H₃)) I₅ trivial
   | _=>exact hf.elim
  | ret v=>
   cases z with
   | ret y=>exact k (.ret v) η₃ σ₃ (.ret y) s₃ B₃ q₃ (H'.trans (H₁.trans H₃)) I₅ hf
   | _=>exact hf.elim
end
def aA (K:Frag):Value→Bool
 | .ref a=>keepIn K (.ref a)
 | _=>true
theorem sE {M:Model} {K:Frag} {f:Value} (hk:aA K f=true) (h:Heap) (X:K.In h):∃k,(k=Keeper.frame∨k=Keeper.machine∨k=Keeper.boundFrame)∧Looks M h (keeperOf f) k:=by
 cases f with
 | ref a=>exact keeps_K (K:=K) (f:=.ref a) hk h X
 | _=>exact⟨.machine,.inr (.inl rfl),Looks.of_pure rfl⟩
section
variable {M:Model} {A:Around} {E:Value→Shared→Prop} {s:Shared} {K:Frag} {f:Value} {first:List Value} {env:Env} {pos:Pos} {Q:Value→Shared→Prop}
theorem eU {h₀:Heap} {e:Expr} {rest:List Expr} (_X:K.In h₀) (hk:aA K f=true) (h:wpAny M A (spliced (backTo pos (starEach (e::rest) env))) (fun vs s₁=>K.In s₁.heap∧wpAny M A (call f (first++vs)) Q E s₁) E s)
 (he:autoParam (starEach (e::rest) env=(false,eval e env)::starEach rest env) tR) (hplain:autoParam ((backTo pos (starEach rest env)).any (fun U=>U.1)=false) tR):
 wpAny M A (callWith pos f first (backTo pos (starEach (e::rest) env)) []) Q E s:=by
 rw[he]at h ⊢
 exact callWith_of (by show((false||(backTo pos (starEach rest env)).any (fun U=>U.1))||false)=false;erw[hplain];rfl) (sE hk) (evalArgs_plain h)
theorem sN (X:K.In s.heap) (hk:aA K f=true) (h:wpAny M A (call f (first++[])) Q E s):wpAny M A (callWith pos f first (backTo pos (starEach [] env)) []) Q E s:=
 callWith_of rfl (sE hk) (evalArgs_nil3 ⟨X,h⟩)
end
section
variable {n:Nat} {η:aI} {σ:aj} {Q:V→aj→Prop}
theorem yI {f:Str} {fp pos:Pos} {e:Expr} {rest:List Expr} {g:Value} (h:gx η f .glb) (hg:S.glob f g) (hk:aA S.K g=true) (ha:rq n (e::rest) η σ fun vs σ₁=>TL n (fun xs=>PySem.call g xs) vs σ₁ Q)
 (he:autoParam (∀env,eval (.Call (.Name f fp) (e::rest) [] pos) env=(do callWith pos (←eval (.Name f fp) env) [] (backTo pos (starEach (e::rest) env)) [])) tI)
 (hst:autoParam (∀env,starEach (e::rest) env=(false,eval e env)::starEach rest env) tI) (hany:autoParam (∀env pos,(backTo pos (starEach rest env)).any (fun U=>U.1)=false) tI):
 TE n (.Call (.Name f fp) (e::rest) [] pos) η σ Q:=fun A B P env s R hA I k=>by
 refine Call_ (I.global h hg ?_) (he env)
 obtain⟨P',I0⟩:=I.inv0
 refine eU I0.kin hk (ha A B P env s pos _ hA I fun vs σ₁ xs s₁ B₁ q H₁ I₁ hx=>?_) (hst env) (hany env pos)
 obtain⟨P1,I1⟩:=I₁.inv0
 exact⟨I1.kin,q.lift hA I₁ hx fun v σ' z s' B' q H I' hz=>k v σ' z s' B' q (H₁.trans H) I' hz⟩
def TM (n:Nat) (name:Str) (o:V) (as:List Expr) (η:aI) (σ:aj) (Q:V→aj→Prop):Prop:=
 ∀A B P env s x pos (R:Value→Shared→Prop) (pl:Sem Bool),iD A n→et B P env η σ s→VR B o x→
  (∀v σ' y s' B',Q v σ'→bh B B'→et B' P env η σ' s'→VR B' v y→R y s')→
  wpAny S.M A (getMethod x name pl) (fun fx s₂=>wpAny S.M A (callWith pos fx.1 fx.2 (backTo pos (starEach as env)) []) R ft s₂) ft s
theorem ap {o:Expr} {name:Str} {apos pos:Pos} {as:List Expr} (h:TE n o η σ fun ov σ₁=>TM n name ov as η σ₁ Q) {pl:Env→Sem Bool}
 (he:autoParam (∀env,eval (.Call (.Attribute o name apos) as [] pos) env=(do let ov ←eval o env;standAt apos.atName;let (f,first) ←holding [ov] (getMethod ov name (pl env));callWith pos f first (backTo pos (starEach as env)) [])) tI):
 TE n (.Call (.Attribute o name apos) as [] pos) η σ Q:=fun A B P env s R hA I k=>
 MethodCall_ (pl:=pl env) (h A B P env s _ hA I fun ov σ₁ x s₁ B₁ h₁ H₁ I₁ hx=>h₁ A B₁ P env s₁ x pos R _ hA I₁ hx fun v σ' y s' B' q H I' hy=>k v σ' y s' B' q (H₁.trans H) I' hy) (he env)
theorem aH {name:Str} {id:String} {o:V} {vs:List V} {e:Expr} {rest:List Expr} (slot:PySem.Slot "list" name id) (hty:typeOf (.builtin id)=pure (.type "method_descriptor")) (hk:aA S.K (.builtin id)=true) (hv:aM σ o (.lst vs))
 (h:rq n (e::rest) η σ fun us σ₁=>TL n (fun xs=>PySem.call (.builtin id) xs) (o::us) σ₁ Q)
 (hst:autoParam (∀env,starEach (e::rest) env=(false,eval e env)::starEach rest env) tI) (hany:autoParam (∀env pos,(backTo pos (starEach rest env)).any (fun U=>U.1)=false) tI):TM n name o (e::rest) η σ Q:=fun A B P env s x pos R pl hA I hx k=>by
 obtain⟨P',I0⟩:=I.inv0
 obtain⟨a,ob,rfl,ea,items,m,rfl,rs⟩:=I0.view hv hx
 refine getMethod_list_of slot hty ⟨_,ea,rfl,m,rfl⟩ (by first|exact⟨_,ea,rfl⟩|exact fun b e=>by cases e;exact⟨_,ea,rfl⟩|(intro b o e1 e2;cases e1;rw[ea] at e2;cases e2;rfl)) ?_
 refine eU I0.kin hk (h A B P env s pos _ hA I fun us σ₁ ys s₁ B₁ q H₁ I₁ hy=>?_) (hst env) (hany env pos)
 obtain⟨P1,I1⟩:=I₁.inv0
 exact⟨I1.kin,q.lift hA I₁ (.cons (hx.mono H₁) hy) fun v σ' z s' B' q H I' hz=>k v σ' z s' B' q (H₁.trans H) I' hz⟩
theorem mH {name:Str} {id:String} {o:V} {vs:List V} (slot:PySem.Slot "list" name id) (hty:typeOf (.builtin id)=pure (.type "method_descriptor")) (hk:aA S.K (.builtin id)=true) (hv:aM σ o (.lst vs))
 (h:TL n (fun xs=>PySem.call (.builtin id) xs) [o] σ Q):TM n name o [] η σ Q:=fun A B P env s x pos R pl hA I hx k=>by
 obtain⟨P',I0⟩:=I.inv0;obtain⟨a,ob,rfl,ea,items,m,rfl,rs⟩:=I0.view hv hx;refine getMethod_list_of slot hty ⟨_,ea,rfl,m,rfl⟩ (by first|exact⟨_,ea,rfl⟩|exact fun b e=>by cases e;exact⟨_,ea,rfl⟩|(intro b o e1 e2;cases e1;rw[ea]at e2;cases e2;rfl)) ?_;exact sN I0.kin hk (h.lift hA I (.cons hx .nil) k)
theorem ji {name:Str} {id:String} {o:V} {c:bp} {e:Expr} {rest:List Expr} (slot:PySem.Slot "dict" name id) (hty:typeOf (.builtin id)=pure (.type "method_descriptor")) (pa:PlainAttrs "dict") (hk:aA S.K (.builtin id)=true) (hv:aM σ o c) (hc:(∃kvs,c=.dS kvs)∨∃kvs,c=.dI kvs)
 (h:rq n (e::rest) η σ fun us σ₁=>TL n (fun xs=>PySem.call (.builtin id) xs) (o::us) σ₁ Q)
 (hst:autoParam (∀env,starEach (e::rest) env=(false,eval e env)::starEach rest env) tI) (hany:autoParam (∀env pos,(backTo pos (starEach rest env)).any (fun U=>U.1)=false) tI):TM n name o (e::rest) η σ Q:=fun A B P env s x pos R pl hA I hx k=>by
 obtain⟨P',I0⟩:=I.inv0
 obtain⟨a,ob,rfl,ea,cr⟩:=I0.view hv hx
 have ex:ob.cls=.type "dict"∧ob.dict=none:=by
  rcases hc with⟨kvs,rfl⟩|⟨kvs,rfl⟩
  ·obtain⟨ps,D,_⟩:=cr;exact⟨D.1.1,D.1.2.1⟩
  ·obtain⟨ps,D,_⟩:=cr;exact⟨D.1.1,D.1.2.1⟩
 refine getMethod_builtin ⟨_,ea,ex.1⟩ pa slot hty (fun b e=>by cases e;exact⟨_,ea,ex.2⟩) ?_
 refine eU I0.kin hk (h A B P env s pos _ hA I fun us σ₁ ys s₁ B₁ q H₁ I₁ hy=>?_) (hst env) (hany env pos)
 obtain⟨P1,I1⟩:=I₁.inv0
 exact⟨I1.kin,q.lift hA I₁ (.cons (hx.mono H₁) hy) fun v σ' z s' B' q H I' hz=>k v σ' z s' B' q (H₁.trans H) I' hz⟩
end
section
variable {n:Nat} {σ:aj} {Q:V→aj→Prop}
theorem aJ {fa:Addr} {as:List V} (h:TF n fa as σ Q):TL n (fun xs=>PySem.call (.ref fa) xs) as σ Q:=fun A B P s xs R hA I hx k=>
 wpAny_call (h A B P s xs _ hA I hx fun v σ' y s' B' q H I' hy=>k v σ' y s' B' q H I' hy)
theorem bt {l:V} {vs:List V} (hv:aM σ l (.lst vs)) (hz:vs.length≤1000000) (q:Q (.int vs.length) σ):TL n (fun xs=>PySem.call (.builtin "len") xs) [l] σ Q:=fun A B P s xs R hA I hx k=>by
 injection hx with h1 h2
 next=>
  injection h2;obtain⟨a,o,rfl,e,items,m,rfl,rs⟩:=I.view hv h1;have hl:vs.length=items.size:=by have:=rs.length;simpa using this
  refine len_list ⟨_,e,rfl,m,rfl⟩ (by exact DD hl hz) ?_;erw[←hl];exact k _ σ _ _ B q (bh.refl _) (I.toks _) (.int _ _)
theorem yD {l:V} {kvs:List (Int×V)} (hv:aM σ l (.dI kvs)) (hz:kvs.length≤1000000) (q:Q (.int kvs.length) σ):TL n (fun xs=>PySem.call (.builtin "len") xs) [l] σ Q:=fun A B P s xs R hA I hx k=>by
 injection hx with h1 h2
 next=>
  injection h2;obtain ⟨a,o,rfl,e,ps,D,rs⟩:=I.view hv h1;have hs:=I.notSys hv (fun U h=>by injection h) h1
  have hl:=rs.length
  refine call_len_dict hs (D.at (knd:=intKind S.prog S.w) e) (by exact DD hl hz) ?_;erw [← hl];exact k _ σ _ _ B q (bh.refl _) (I.toks _) (.int _ _)
theorem ez {j:Int} (q:Q (.rng j) σ):TL n (fun xs=>PySem.call (.type "range") xs) [.int j] σ Q:=fun A B P s xs R hA I hx k=>by
 injection hx with h1 h2
 next=>
  injection h2;injection h1;refine call_range_1 ?_;have H':bh B (put B s.heap.objs.size (D8 j s.toks ‹_› (s.toks+1))):=jB I.fresh.1
  exact k _ σ _ _ _ q H' ((I.push_base rfl).toks _) (.rng (av ..))
theorem BM {i:Int} (q:Q (.int i) σ):TL n (fun xs=>PySem.call (.type "int") xs) [.int i] σ Q:=fun A B P s xs R hA I hx k=>by
 injection hx with h1 h2
 next=>
  injection h2;injection h1;exact call_int_int (k _ σ _ _ B q (bh.refl _) I (.int _ _))
theorem BN {i:Int} (q:Q (.int (if i<0 then -i else i)) σ):TL n (fun xs=>PySem.call (.builtin "abs") xs) [.int i] σ Q:=fun A B P s xs R hA I hx k=>by
 injection hx with h1 h2
 next=>
  injection h2;injection h1;exact call_abs_int fun u tk=>k _ σ _ _ B q (bh.refl _) (I.toks _) (.int _ _)
theorem qp {i:Int} (hi:i.natAbs<2 ^ 30) (q:Q (.str (Str.ofString (toString i))) σ):TL n (fun xs=>PySem.call (.type "str") xs) [.int i] σ Q:=fun A B P s xs R hA I hx k=>by
 injection hx with h1 h2
 next=>
  injection h2;injection h1;refine PySem.P.str_of_int ?_ (k _ σ _ _ B q (bh.refl _) (I.toks _) (.str _ _));rcases Nat.eq_zero_or_pos i.natAbs with h|h
  ·erw[h];decide
  ·have:=(Nat.log2_lt (n:=i.natAbs) (k:=30) (by omega)).mpr hi;omega
theorem og {α:Type}:∀l:List α,l.eraseIdx (l.length-1)=l.dropLast
 | []=>rfl
 | [_]=>rfl
 | a::b::r=>by
  have:=og (b::r)
  simp only[List.length_cons,Nat.add_sub_cancel]at this ⊢;erw[List.dropLast_cons₂,List.eraseIdx_cons_succ,this]
theorem am {a:Addr} {vs:List V} {v:V} {σ':aj} (u:fK σ a (.lst vs) (.lst (vs++[v])) σ') (hz:vs.length≤1000000) (q:Q .none σ'):TL n (fun xs=>PySem.call (.builtin "list.append") xs) [.loc a,v] σ Q:=fun A B P s xs R hA I hx k=>by
 injection hx with h1 h2
 next=>
  injection h2 with h3 h4
  next=>
   injection h4;injection h1;obtain⟨_,_,o,e,items,m,rfl,rs⟩:=I.sto _ u.mem;have hl:vs.length=items.size:=by have:=rs.length;simpa using this
   refine call_meets slot_list_append ⟨_,e,rfl⟩ entry_list_append (args_list_append _ _) (list_append a items m _ (by erw[sizeLine_eq];exact xu hl hz)) ⟨e,?_⟩;exact k _ σ' _ _ B q (bh.refl _) (I.upd (t:=s.toks) u (Heap.SameBut.update ..) (Heap.get?_update_self _ e rfl) ⟨items.push _,_,rfl,by simpa using rs.append (.one h3)⟩) .none
theorem tr {a:Addr} {vs:List V} {v:V} {σ':aj} (hv:vs[vs.length-1]?=some v) (u:fK σ a (.lst vs) (.lst vs.dropLast) σ') (hz:vs.length≤1000000) (q:Q v σ'):TL n (fun xs=>PySem.call (.builtin "list.pop") xs) [.loc a] σ Q:=fun A B P s xs R hA I hx k=>by
 injection hx with h1 h2
 next=>
  injection h2;injection h1;obtain⟨_,_,o,e,items,m,rfl,rs⟩:=I.sto _ u.mem;have hl:vs.length=items.size:=by have:=rs.length;simpa using this
  obtain⟨y,hy,ry⟩:=rs.get hv;refine call_meets F.slot_list_pop ⟨_,e,rfl⟩ F.entry_list_pop (F.args_list_pop_1 _) (MeetsSeq.list_pop_last a items m y (by erw[←hl];simpa using hy) (by erw[sizeLine_eq];exact xu hl hz)) ⟨e,?_⟩;refine k _ σ' _ _ B q (bh.refl _) (I.upd (t:=s.toks) u (Heap.SameBut.update ..) (Heap.get?_update_self _ e rfl) ⟨items.eraseIdxIfInBounds (items.size-1),_,rfl,?_⟩) ry;have:=rs.erase (vs.length-1)
  rw[og]at this;erw[←hl];simpa [Array.toList_eraseIdxIfInBounds]using this
theorem yC {a:Addr} {v:V} {vs:List V} {σ':aj} (u:fK σ a (.lst (v::vs)) (.lst vs) σ') (hz:vs.length≤100000) (q:Q v σ'):TL n (fun xs=>PySem.call (.builtin "list.pop") xs) [.loc a,.int 0] σ Q:=fun A B P s xs R hA I hx k=>by
 injection hx with h1 h2
 next=>
  injection h2 with h3 h4
  next=>
   injection h4;injection h1;injection h3;obtain⟨_,_,o,e,items,m,rfl,rs⟩:=I.sto _ u.mem;have hl:vs.length+1=items.size:=by have:=rs.length;simpa using this
   obtain⟨y,hy,ry⟩:=rs.get (i:=0) rfl;refine call_meets F.slot_list_pop ⟨_,e,rfl⟩ F.entry_list_pop (F.args_list_pop_2 _ _) (MeetsSeq.list_pop_at a items m 0 _ 0 y (by decide) ?_ (by simpa using hy) (by erw[sizeLine_eq];exact Kr hl hz)) ⟨e,?_⟩
   ·unfold seqIndex?;simp only[Int.lt_irrefl,if_false,Int.le_refl,decide_true,Bool.true_and];erw[if_pos (by simp only[decide_eq_true_eq];exact Kq hl)];rfl
   refine k _ σ' _ _ B q (bh.refl _) (I.upd (t:=s.toks) u (Heap.SameBut.update ..) (Heap.get?_update_self _ e rfl) ⟨items.eraseIdxIfInBounds 0,_,rfl,?_⟩) ry;have:=rs.erase 0
   simpa [Array.toList_eraseIdxIfInBounds]using this
theorem ll {a:Addr} {vs us:List V} {b:V} {σ':aj} (u:fK σ a (.lst vs) (.lst (vs++us)) σ') (hb:aM σ b (.lst us)) (hz:vs.length+us.length≤1000000) (q:Q .none σ'):TL n (fun xs=>PySem.call (.builtin "list.extend") xs) [.loc a,b] σ Q:=fun A B P s xs R hA I hx k=>by
 injection hx with h1 h2
 next=>
  injection h2 with h3 h4
  next=>
   injection h4;injection h1;obtain⟨_,_,o,e,items,m,rfl,rs⟩:=I.sto _ u.mem;obtain⟨b',o2,rfl,e2,items2,m2,rfl,rs2⟩:=I.view hb h3;have l1:vs.length=items.size:=by have:=rs.length;simpa using this
   have l2:us.length=items2.size:=by have:=rs2.length;simpa using this
   have ht:Builtin.List.listTooLong (items.size+items2.size)=false:=by
    unfold Builtin.List.listTooLong;erw[decide_eq_false_iff_not,sizeLine_eq];exact DC hz l1 l2
   refine call_meets F.slot_list_extend ⟨_,e,rfl⟩ F.entry_list_extend (F.args_list_extend_2 _ _) (AutoSeq1.list_extend_list_list_0 a items m b' items2 m2 (by erw[ht,Bool.and_false];exact Bool.false_ne_true) (by erw[sizeLine_eq];exact DB hz l1) (by erw[sizeLine_eq];exact DA hz l1 l2)) ⟨e,e2,?_⟩;exact k _ σ' _ _ B q (bh.refl _) (I.upd (t:=s.toks) u (Heap.SameBut.update ..) (Heap.get?_update_self _ e rfl) ⟨items++items2,_,rfl,by simpa using rs.append rs2⟩) .none
end
inductive dP:aI→aI→Prop
 | nil:dP [] []
 | same {p:Str×Sl} {η η':aI}:dP η η'→dP (p::η) (p::η')
 | un {x:Str} {v:V} {η η':aI}:dP η η'→dP ((x,.val v)::η) ((x,.un)::η')
theorem dP.refl:∀η:aI,dP η η
 | []=>.nil
 | _::r=>.same (dP.refl r)
theorem dP.keys {η η':aI} (h:dP η η'):η'.map (fun U=>U.1)=η.map (fun U=>U.1):=by
 induction h with
 | nil=>rfl
 | same _ ih=>simp[ih]
 | un _ ih=>simp[ih]
theorem dP.slots {B:aS} {env:Env} {m:Str→Option Value} {η η':aI} (h:dP η η') (H:∀p∈η,jS B env m p.1 p.2):∀p∈η',jS B env m p.1 p.2:=by
 induction h with
 | nil=>exact H
 | same _ ih=>
  intro p hp;rcases List.mem_cons.mp hp with rfl|hp
  ·exact H _ (.head _)
  ·exact ih (fun q hq=>H q (.tail _ hq)) p hp
 | un _ ih=>
  intro p hp;rcases List.mem_cons.mp hp with rfl|hp
  ·exact(H _ (.head _)).1
  ·exact ih (fun q hq=>H q (.tail _ hq)) p hp
theorem dP.nodbg {η η':aI} (h:dP η η') (H:∀p∈η,(p.1==("__debug__" :Str))=false):∀p∈η',(p.1==("__debug__" :Str))=false:=fun p hp=>by
 have:p.1∈η'.map (fun U=>U.1):=List.mem_map.mpr ⟨p,hp,rfl⟩
 rw[h.keys]at this;obtain⟨q,hq,e⟩:=List.mem_map.mp this;erw[←e];exact H q hq
theorem pw.weak {B:aS} {env:Env} {m:Str→Option Value} {η η':aI} (x:pw B env m η) (h:dP η η'):pw B env m η':=⟨h.slots x.slots,by erw[h.keys];exact x.nd,h.nodbg x.nodbg⟩
def aC (η:aI) (σ:aj) (η':aI) (σ':aj):Prop:=
 ∀B P env s,et B P env η σ s→∃B',bh B B'∧et B' P env η' σ' s
section
variable {n:Nat} {η η':aI} {σ σ':aj}
theorem aC.weak (h:dP η η'):aC η σ η' σ:=fun B P env s I=>by
 obtain⟨⟨oL,m,J,N,E⟩,pl,ok⟩:=I;exact⟨B,bh.refl _,⟨⟨oL,m,J,N,E.weak h⟩,pl,ok⟩⟩
theorem aC.drop (h:List.Sublist σ' σ):aC η σ η σ':=fun B P env s I=>by
 obtain⟨⟨oL,m,J,N,E⟩,pl,ok⟩:=I;exact⟨B,bh.refl _,⟨⟨oL,m,J.drop h,N,E⟩,pl,ok⟩⟩
theorem aC.trans {η₂:aI} {σ₂:aj} (h:aC η σ η' σ') (h':aC η' σ' η₂ σ₂):aC η σ η₂ σ₂:=fun B P env s I=>by
 obtain⟨B1,H1,I1⟩:=h B P env s I;obtain⟨B2,H2,I2⟩:=h' B1 P env s I1;exact⟨B2,H1.trans H2,I2⟩
theorem b5 {sts:List Stmt} {Q:Fl→aI→aj→Prop} (h:aC η σ η' σ') (t:dl n sts η' σ' Q):dl n sts η σ Q:=fun A B P env s R hA I k=>by
 obtain⟨B1,H1,I1⟩:=h B P env s I;exact t A B1 P env s R hA I1 fun f η₂ σ₂ x s' B' q H I' hf=>k f η₂ σ₂ x s' B' q (H1.trans H) I' hf
theorem wJ {st:Stmt} {Q:Fl→aI→aj→Prop} (h:aC η σ η' σ') (t:TS n st η' σ' Q):TS n st η σ Q:=fun A B P env s R hA I k=>by
 obtain⟨B1,H1,I1⟩:=h B P env s I;exact t A B1 P env s R hA I1 fun f η₂ σ₂ x s' B' q H I' hf=>k f η₂ σ₂ x s' B' q (H1.trans H) I' hf
theorem bN {Q:Fl→aI→aj→Prop} (h:aC η σ η' σ') (q:Q .next η' σ'):dl n [] η σ Q:=b5 h (aw q)
theorem wK {pos:Pos} {Q:Fl→aI→aj→Prop} (h:aC η σ η' σ') (q:Q .cont η' σ'):TS n (.Continue pos) η σ Q:=wJ h (uo q)
def gd (σ:aj) (a:Addr) (w:V) (σ':aj):Prop:=
 ∀B P s,aK B P σ s→∃B',bh B B'∧aK B' P σ' s∧VR B' w (.ref a)
theorem gd.lst {a:Addr} {vs:List V} (d:oT σ a (.lst vs) σ'):gd σ a (.lst vs) σ':=fun B P s I=>by
 obtain⟨o,H,c,I'⟩:=I.freeze d;obtain⟨items,m,rfl,r⟩:=c;exact⟨_,H,I',.lst (av ..) (r.mono H)⟩
theorem gd.dS {a:Addr} {kvs:List (Str×V)} (d:oT σ a (.dS kvs) σ'):gd σ a (.dS kvs) σ':=by
 delta σ σ' a kvs d at ⊢;delta B P s I;injection (I.freeze d)with o H c I';injection c with ps D r;refine⟨_,H,I',.dS (av ..) ?_ D (r.mono H)⟩;erw[beq_eq_false_iff_ne];exact I.sysN d.mem
theorem gd.dI {a:Addr} {kvs:List (Int×V)} (d:oT σ a (.dI kvs) σ'):gd σ a (.dI kvs) σ':=fun B P s I=>by
 obtain⟨o,H,c,I'⟩:=I.freeze d;obtain⟨ps,D,r⟩:=c;refine⟨_,H,I',.dI (av ..) ?_ D (r.mono H)⟩;erw[beq_eq_false_iff_ne];exact I.sysN d.mem
theorem gd.obj {a C dx:Addr} {kvs:List (Str×V)} {σ₂:aj} (d:oT σ a (.inst C dx) σ') (d':oT σ' dx (.dS kvs) σ₂):gd σ a (.obj C kvs) σ₂:=by
 delta σ σ' a C dx kvs σ₂ d d' at ⊢;delta B P s I;injection (I.freeze d)with o H c I';injection (I'.freeze d')with o' H' c' I2;obtain rfl:=c;injection c' with ps D r;exact⟨_,H.trans H',I2,.obj (H' _ _ (av ..)) (av ..) D (r.mono H')⟩
def Rp (a:Addr) (w v v':V):Prop:=∀B y,VR B w (.ref a)→VR B v y→VR B v' y
def bf (a:Addr) (w:V) (c c':bp):Prop:=∀B o,VR B w (.ref a)→CR B o c→CR B o c'
theorem Rp.refl {a:Addr} {w v:V}:Rp a w v v:=fun U U U h=>h
theorem Rp.loc {a:Addr} {w:V}:Rp a w (.loc a) w:=fun U U h r=>by injection r;exact h
theorem bf.refl {a:Addr} {w:V} {c:bp}:bf a w c c:=fun U U U h=>h
def td (a:Addr) (w:V) (vs vs':List (Str×V)):Prop:=∀B ys,VR B w (.ref a)→ko B vs ys→ko B vs' ys
theorem td.refl {a:Addr} {w:V} {vs:List (Str×V)}:td a w vs vs:=fun U U U h=>h
theorem td.cons {a:Addr} {w v v':V} {x:Str} {vs vs':List (Str×V)} (h:Rp a w v v') (h':td a w vs vs'):td a w ((x,v)::vs) ((x,v')::vs'):=fun B ys hw r=>by
 cases r with|cons r1 r2=>exact .cons (h _ _ hw r1) (h' _ _ hw r2)
theorem bf.dS {a:Addr} {w:V} {vs vs':List (Str×V)} (h:td a w vs vs'):bf a w (.dS vs) (.dS vs'):=fun B o hw c=>by
 obtain⟨items,m,r⟩:=c;exact⟨items,m,h _ _ hw r⟩
inductive aR (a:Addr) (w:V):aj→aj→Prop
 | refl {σ:aj}:aR a w σ σ
 | cons {b:Addr} {c c':bp} {σ σ':aj}:bf a w c c'→aR a w σ σ'→aR a w ((b,c)::σ) ((b,c')::σ')
inductive uh (a:Addr) (w:V):aI→aI→Prop
 | refl {η:aI}:uh a w η η
 | val {x:Str} {v v':V} {η η':aI}:Rp a w v v'→uh a w η η'→uh a w ((x,.val v)::η) ((x,.val v')::η')
 | same {p:Str×Sl} {η η':aI}:uh a w η η'→uh a w (p::η) (p::η')
theorem aR.keys {a:Addr} {w:V} (h:aR a w σ σ'):σ'.map (fun U=>U.1)=σ.map (fun U=>U.1):=by
 induction h with
 | refl=>rfl
 | cons _ _ ih=>simp[ih]
theorem aR.mem {a:Addr} {w:V} (h:aR a w σ σ') {B:aS} (hw:VR B w (.ref a)):∀p∈σ',∃c,(p.1,c)∈σ∧∀o,CR B o c→CR B o p.2:=by
 induction h with
 | refl=>exact fun p hp=>⟨_,hp,fun U h=>h⟩
 | cons hc _ ih=>
  intro p hp;rcases List.mem_cons.mp hp with rfl|hp
  ·exact⟨_,.head _,fun o=>hc _ _ hw⟩
  ·obtain⟨c,hm,hc⟩:=ih p hp;exact⟨c,.tail _ hm,hc⟩
theorem aK.rp {a:Addr} {w:V} {B P:aS} {s:Shared} (I:aK B P σ s) (h:aR a w σ σ') (hw:VR B w (.ref a)):aK B P σ' s where
 sub:=I.sub
 base:=I.base
 prot:=I.prot
 disj:=I.disj
 sto:=fun p hp=>by
  obtain⟨c,hm,hc⟩:=h.mem hw p hp
  obtain⟨x,y,o,e,r⟩:=I.sto _ hm
  exact⟨x,y,o,e,hc o r⟩
 nd:=by erw[h.keys];exact I.nd
 gens:=I.gens
 os:=I.os
theorem uh.keys {a:Addr} {w:V} (h:uh a w η η'):η'.map (fun U=>U.1)=η.map (fun U=>U.1):=by
 induction h with
 | refl=>rfl
 | val _ _ ih=>simp[ih]
 | same _ ih=>simp[ih]
theorem uh.slots {a:Addr} {w:V} {B:aS} {env:Env} {m:Str→Option Value} (h:uh a w η η') (hw:VR B w (.ref a)) (H:∀p∈η,jS B env m p.1 p.2):∀p∈η',jS B env m p.1 p.2:=by
 induction h with
 | refl=>exact H
 | val hv _ ih=>
  intro p hp;rcases List.mem_cons.mp hp with rfl|hp
  ·obtain⟨k,y,e,r⟩:=H _ (.head _);exact⟨k,y,e,hv _ _ hw r⟩
  ·exact ih (fun q hq=>H q (.tail _ hq)) p hp
 | same _ ih=>
  intro p hp;rcases List.mem_cons.mp hp with rfl|hp
  ·exact H _ (.head _)
  ·exact ih (fun q hq=>H q (.tail _ hq)) p hp
theorem uh.nodbg {a:Addr} {w:V} (h:uh a w η η') (H:∀p∈η,(p.1==("__debug__" :Str))=false):∀p∈η',(p.1==("__debug__" :Str))=false:=fun p hp=>by
 have:p.1∈η'.map (fun U=>U.1):=List.mem_map.mpr ⟨p,hp,rfl⟩
 rw[h.keys]at this;obtain⟨q,hq,e⟩:=List.mem_map.mp this;erw[←e];exact H q hq
theorem aC.frz {a:Addr} {w:V} {σ₁:aj} (f:gd σ a w σ₁) (hs:aR a w σ₁ σ') (he:uh a w η η'):aC η σ η' σ':=fun B P env s I=>by
 obtain⟨⟨oL,m,J,N,E⟩,pl,ok⟩:=I;obtain⟨B',H,I',r⟩:=f _ _ _ J;have E':=E.mono H
 exact⟨B',H,⟨⟨oL,m,I'.rp hs r,N,⟨he.slots r E'.slots,by erw[he.keys];exact E'.nd,he.nodbg E'.nodbg⟩⟩,pl,ok⟩⟩
def ay (v:V) (σ:aj) (v':V) (σ':aj):Prop:=
 ∀B P s x,aK B P σ s→VR B v x→∃B',bh B B'∧aK B' P σ' s∧VR B' v' x
theorem ay.drop {v:V} (h:List.Sublist σ' σ):ay v σ v σ':=fun B P s x I r=>⟨B,bh.refl _,I.drop h,r⟩
theorem ay.trans {v v' v₂:V} {σ₂:aj} (h:ay v σ v' σ') (h':ay v' σ' v₂ σ₂):ay v σ v₂ σ₂:=fun B P s x I r=>by
 obtain⟨B1,H1,I1,r1⟩:=h B P s x I r;obtain⟨B2,H2,I2,r2⟩:=h' B1 P s x I1 r1;exact⟨B2,H1.trans H2,I2,r2⟩
theorem ay.frz {a:Addr} {w v v':V} {σ₁:aj} (f:gd σ a w σ₁) (hs:aR a w σ₁ σ') (hv:Rp a w v v'):ay v σ v' σ':=fun B P s x I r=>by
 obtain⟨B',H,I',q⟩:=f _ _ _ I;exact⟨B',H,I'.rp hs q,hv _ _ q (r.mono H)⟩
theorem bA {e:Expr} {Q:V→aj→Prop} (h:TE n e η σ fun v σ₁=>∃v' σ₂,ay v σ₁ v' σ₂∧Q v' σ₂):TE n e η σ Q:=fun A B P env s R hA I k=>
 h A B P env s R hA I fun v σ₁ x s' B' q H I' r=>by
  obtain⟨v',σ₂,f,q⟩:=q;obtain⟨oL,J,back⟩:=I'.lift;obtain⟨B2,H2,J2,r2⟩:=f _ _ _ _ J r;exact k v' σ₂ x s' B2 q (H.trans H2) (back _ _ _ H2 J2) r2
theorem cU {fa:Addr} {as:List V} {Q:V→aj→Prop} (h:TF n fa as σ fun v σ₁=>∃v' σ₂,ay v σ₁ v' σ₂∧Q v' σ₂):TF n fa as σ Q:=fun A B P s xs R hA I hx k=>
 h A B P s xs R hA I hx fun v σ₁ x s' B' q H I' r=>by
  obtain⟨v',σ₂,f,q⟩:=q;obtain⟨B2,H2,J2,r2⟩:=f _ _ _ _ I' r;exact k v' σ₂ x s' B2 q (H.trans H2) J2 r2
theorem ay.lst {a:Addr} {vs:List V} (d:oT σ a (.lst vs) σ'):ay (.loc a) σ (.lst vs) σ':=ay.frz (gd.lst d) .refl .loc
theorem ay.dS {a:Addr} {vs:List (Str×V)} (d:oT σ a (.dS vs) σ'):ay (.loc a) σ (.dS vs) σ':=ay.frz (gd.dS d) .refl .loc
theorem ay.dI {a:Addr} {vs:List (Int×V)} (d:oT σ a (.dI vs) σ'):ay (.loc a) σ (.dI vs) σ':=ay.frz (gd.dI d) .refl .loc
theorem ay.obj {a C dx:Addr} {kvs:List (Str×V)} {σ₂:aj} (d:oT σ a (.inst C dx) σ') (d':oT σ' dx (.dS kvs) σ₂):ay (.loc a) σ (.obj C kvs) σ₂:=ay.frz (gd.obj d d') .refl .loc
theorem TE.mono {e:Expr} {Q Q':V→aj→Prop} (h:TE n e η σ Q) (k:∀v σ',Q v σ'→Q' v σ'):TE n e η σ Q':=fun A B P env s R hA I kk=>h A B P env s R hA I fun v σ' x s' B' q=>kk v σ' x s' B' (k _ _ q)
theorem TF.mono {fa:Addr} {as:List V} {Q Q':V→aj→Prop} (h:TF n fa as σ Q) (k:∀v σ',Q v σ'→Q' v σ'):TF n fa as σ Q':=fun A B P s xs R hA I hx kk=>h A B P s xs R hA I hx fun v σ' x s' B' q=>kk v σ' x s' B' (k _ _ q)
theorem TF.up {m:Nat} {fa:Addr} {as:List V} {Q:V→aj→Prop} (h:TF m fa as σ Q) (hm:m≤n):TF n fa as σ Q:=fun A B P s xs R hA I hx kk=>h A B P s xs R (hA.le hm) I hx kk
end
section
variable {n:Nat} {η:aI} {σ:aj}
theorem vw (C:Addr) (xs:List Value):(Code.builtin "type.__call__" ⟨.ref C::xs,[]⟩).weight=1:=by kernel_rfl
theorem wI (a:Args):(Code.builtin "type.__call__" a).cUnits=1:=by kernel_rfl
theorem iD.under {A:Around} {n:Nat} {C:Addr} {xs:List Value} (h:iD A (n+1)):iD (A.under (.builtin "type.__call__" ⟨.ref C::xs,[]⟩)) n:=
 ⟨h.hand,by have:=h.depth;show A.depth+Code.weight _+4*n≤980;erw[vw];exact Dz this,by have:=h.units;show A.units+Code.cUnits _+40*n≤9800;erw[wI];exact Kp this⟩
theorem ml {C fI:Addr} {as:List V} {Q:V→aj→Prop} (hm:makesIn S.K C=true) (hi:findIn S.K (.ref C) "__init__" = some (some (.ref fI))) (hf:typeIn S.K (.ref fI)=some (.type "function"))
 (h:∀x dx,TF n fI (.loc x::as) ((x,.inst C dx)::(dx,.dS [])::σ) fun v σ'=>v=.none∧Q (.loc x) σ'):TF (n+1) C as σ Q:=fun A B P s xs R hA I hx k=>by
 obtain⟨hh,g,d,t,os⟩:=s;refine make_core (makes_of I.kin hm) (looks_findIn I.kin hi) (fun self=>bind_fn I.kin self hf) (.inl rfl) ?_;have I1:=I.push_sto (o:=emptyDict) (c:=.dS []) rfl CR.newS
 have I2:=I1.push_sto (o:=instObj C hh.objs.size) (c:=.inst C hh.objs.size) rfl rfl
 simp only[Heap.size_push] at I2;refine h _ _ _ B P _ (.ref (hh.objs.size+1)::xs) _ hA.under I2 (.cons (.loc _) hx) fun v σ' y s' B' q H I' hy=>?_
 obtain⟨rfl,q⟩:=q;injection hy;exact⟨rfl,k _ _ _ s' B' q H I' (.loc _)⟩
end
def la (env:Env):List (Str×NameKind)→List (Str×Addr)→List (Str×Addr)
 | [],acc=>acc
 | (x,k)::r,acc=>if k==.free then la env r ((x,(env.cells.lookup x).getD 0)::acc)else la env r acc
theorem fV {env:Env} {acc:List (Str×Addr)}:la env [] acc=acc:=rfl
theorem eT {env:Env} {x:Str} {k:NameKind} {r:List (Str×NameKind)} {acc:List (Str×Addr)}:la env ((x,k)::r) acc=if k==.free then la env r ((x,(env.cells.lookup x).getD 0)::acc)else la env r acc:=rfl
inductive oS (η:aI):List (Str×NameKind)→aI→Prop
 | nil:oS η [] []
 | loc {x:Str} {r:List (Str×NameKind)} {ηk:aI}:oS η r ηk→oS η ((x,.local)::r) ((x,.un)::ηk)
 | glb {x:Str} {r:List (Str×NameKind)} {ηk:aI}:oS η r ηk→oS η ((x,.globalImplicit)::r) ((x,.glb)::ηk)
 | cel {x:Str} {c:Addr} {r:List (Str×NameKind)} {ηk:aI}:gx η x (.cel c)→oS η r ηk→oS η ((x,.free)::r) ((x,.cel c)::ηk)
theorem oS.keys {η:aI} {l:List (Str×NameKind)} {ηk:aI} (h:oS η l ηk):ηk.map (fun U=>U.1)=l.map (fun U=>U.1):=by
 induction h<;>simp_all
theorem oS.noCell {η:aI} {l:List (Str×NameKind)} {ηk:aI} (h:oS η l ηk):∀x∈l,x.2≠.cell:=by
 induction h with
 | nil=>intro x hx;injection hx
 | loc _ ih=>intro x hx;rcases List.mem_cons.mp hx with rfl|hx;· simp
             exact ih x hx
 | glb _ ih=>intro x hx;rcases List.mem_cons.mp hx with rfl|hx;· simp
             exact ih x hx
 | cel _ _ ih=>intro x hx;rcases List.mem_cons.mp hx with rfl|hx;· simp
               exact ih x hx
theorem ie (env:Env):∀(l:List (Str×NameKind)) (acc:List (Str×Addr)) (p:Str×Addr),p∈acc→p∈la env l acc
 | [],acc,p,h=>h
 | (x,k)::r,acc,p,h=>by
  simp only[fV,eT];split
  ·exact ie env r _ p (.tail _ h)
  ·exact ie env r _ p h
theorem kl (env:Env):∀(l:List (Str×NameKind)) (acc:List (Str×Addr)),(l.map (fun U=>U.1)++acc.map (fun U=>U.1)).Nodup→((la env l acc).map (fun U=>U.1)).Nodup
 | [],acc,h=>h
 | (x,k)::r,acc,h=>by
  simp only[fV,eT];split
  ·refine kl env r _ ?_;erw[List.map_cons];exact(List.Perm.nodup_iff (List.perm_middle (a:=x) (l₁:=r.map (fun U=>U.1)) (l₂:=acc.map (fun U=>U.1)))).mpr (by simpa using h)
  ·refine kl env r _ ?_;exact(List.nodup_cons.mp h).2
theorem om (env:Env) {x:Str}:∀(l:List (Str×NameKind)) (acc:List (Str×Addr)),(x,NameKind.free)∈l→(x,(env.cells.lookup x).getD 0)∈la env l acc
 | (y,k)::r,acc,h=>by
  rcases List.mem_cons.mp h with e|h
  ·cases e;simp only[fV,eT];erw[if_pos (by rfl)];exact ie env r _ _ (.head _)
  ·simp only[fV,eT];split
   ·exact om env r _ h
   ·exact om env r _ h
theorem iq (env:Env):∀(l:List (Str×NameKind)) (acc:List (Str×Addr)),(∀x,(x,NameKind.free)∈l→∃c,env.cells.lookup x=some c)→
 (forIn l acc fun(p:Str×NameKind) cs=>if p.2==.free then do let a ←cellOf env p.1;pure (ForInStep.yield ((p.1,a)::cs))else pure (ForInStep.yield cs):Sem (List (Str×Addr)))=pure (la env l acc)
 | [],acc,h=>by simp[fV,eT]
 | (x,k)::r,acc,h=>by
  erw[List.forIn_cons];by_cases hk:k=.free
  ·subst hk;obtain⟨c,hc⟩:=h x (.head _);have hce:cellOf env x=pure c:=by unfold cellOf;erw[hc]
   simp only[hce,pure_bind,beq_self_eq_true,if_true];erw[iq env r _ fun y hy=>h y (.tail _ hy)];simp[fV,eT,hc]
  ·have e:(k==NameKind.free)=false:=by simp[hk]
   simp only[e,Bool.false_eq_true,if_false,pure_bind];erw[iq env r _ fun y hy=>h y (.tail _ hy)];simp[fV,eT,e]
theorem u8 {scope:Scope} {env:Env} (h:∀x,(x,NameKind.free)∈scope.names→∃c,env.cells.lookup x=some c):closureFor scope env=pure (la env scope.names []):=by
 unfold closureFor;have:=iq env scope.names [] h
 simp only[bind_pure];exact this
theorem pc (scope:Scope) (env:Env):(relabel scope env).names=scope.names.map fun(n,k)=>if(k==.free&&env.scope.kind==.function&&env.kindOf n==some .cell)then(n,.cell)else(n,k):=rfl
theorem oS.free {η:aI} {l:List (Str×NameKind)} {ηk:aI} (h:oS η l ηk) {B:aS} {env:Env} {m:Str→Option Value} (E:pw B env m η):∀x,(x,NameKind.free)∈l→∃c,env.cells.lookup x=some c:=by
 induction h with
 | nil=>intro x hx;injection hx
 | loc _ ih=>intro x hx;rcases List.mem_cons.mp hx with e|hx;· cases e
             exact ih x hx
 | glb _ ih=>intro x hx;rcases List.mem_cons.mp hx with e|hx;· cases e
             exact ih x hx
 | cel hc _ ih=>
  intro x hx;rcases List.mem_cons.mp hx with e|hx
  ·cases e;exact⟨_,(E.slots _ hc.mem).2⟩
  ·exact ih x hx
theorem oS.slots {η:aI} {B:aS} {env:Env} {m:Str→Option Value} (E:pw B env m η) (hf:env.scope.kind=.function) {cenv:Env} {m':Str→Option Value}
 {l:List (Str×NameKind)} {ηk:aI} (h:oS η l ηk) (hc:∀x c,(x,NameKind.free)∈l→env.cells.lookup x=some c→cenv.cells.lookup x=some c)
 (hk:∀x k,(x,k)∈l→cenv.kindOf x=some (if(k==.free&&env.scope.kind==.function&&env.kindOf x==some .cell)then .cell else k)):∀p∈ηk,jS B cenv m' p.1 p.2:=by
 delta η B env m E hf cenv m' l ηk h hc hk at ⊢;induction h with
 | nil=>exact fun p hp=>absurd hp List.not_mem_nil
 | @loc x _ _ h ih=>
  refine List.forall_mem_cons.mpr ⟨?_,ih (fun x c hx=>hc x c (.tail _ hx)) (fun x k hx=>hk x k (.tail _ hx))⟩;show cenv.kindOf x=some .local
  erw[hk x .local (.head _)];rfl
 | @glb x _ _ h ih=>
  refine List.forall_mem_cons.mpr ⟨?_,ih (fun x c hx=>hc x c (.tail _ hx)) (fun x k hx=>hk x k (.tail _ hx))⟩;show cenv.kindOf x=some .globalImplicit
  erw[hk x .globalImplicit (.head _)];rfl
 | @cel x c _ _ hx h ih=>
  refine List.forall_mem_cons.mpr ⟨?_,ih (fun x c hx=>hc x c (.tail _ hx)) (fun x k hx=>hk x k (.tail _ hx))⟩;injection (E.slots _ hx.mem)with e1 e2;dsimp only at e1 e2;refine⟨?_,hc x c (.head _) e2⟩;erw[hk x .free (.head _),e1,hf];rfl
def BG (n:Nat):List Expr→aI→aj→(Bool→aj→Prop)→Prop
 | [],_,σ,Q=>Q true σ
 | [c],η,σ,Q=>TB n c η σ Q
 | _,_,_,_=>False
theorem BG.run {n:Nat} {ifs:List Expr} {η:aI} {σ:aj} {Q:Bool→aj→Prop} (h:BG n ifs η σ Q) {A:Around} {B P:aS} {env:Env} {s:Shared} {E:Value→Shared→Prop} {R:Bool→Shared→Prop} (hA:iD A n) (I:et B P env η σ s)
 (k:∀b σ' s' B',Q b σ'→bh B B'→et B' P env η σ' s'→R b s'):
 wpAny S.M A (forIn ifs true fun c r=>if r=true then do let ok ←isTrue c env (eval c env);pure (ForInStep.yield ok)else pure (ForInStep.yield r)) R E s:=by
 match ifs,h with
 | [],h=>exact wpAny_tests_nil (k true σ s B h (bh.refl _) I)
 | [c],h=>exact wpAny_tests_one (dN (h A B P env s R hA I k))
section
variable {prog:Program} {w:World} {A:Around} {R:Result→Shared→Prop}
theorem qV {elt target iter:Expr} {ifs:List Expr} {scope:Scope} {pos:Pos} {it acc:Value} {env:Env} (I:Nat→Shared→Prop)
 (turn:∀n s,I n s→wpAny (model prog w) A (pyNext it) (fun r s₁=>match r with
  | none=>R (.ok .next) s₁
  | some v=>wpAny (model prog w) A (letOwnedTupleGo target it v) (fun U s₁'=>wpAny (model prog w) A (assign target env v) (fun U s₂=>
   wpAny (model prog w) A (forIn ifs true fun c r=>if r=true then do let ok ←isTrue c env (eval c env);pure (ForInStep.yield ok) else pure (ForInStep.yield r)) (fun ok s₃=>
    if ok=true then wpAny (model prog w) A (eval elt env) (fun x s₄=>
     wpAny (model prog w) A (call (.builtin "list.append") [acc,x]) (fun U s₅=>∃m,m<n∧I m s₅) ft s₄) ft s₃
    else ∃m,m<n∧I m s₃) ft s₂) ft s₁') ft s₁) ft s)
 (n:Nat) (s:Shared) (h:I n s):
 codeAny (model prog w) A (.compLoop (.ListComp elt [⟨target,iter,ifs,0⟩] scope pos) 0 it acc env) R s:=by
 delta prog w A R elt target iter ifs scope pos it acc env I turn n s h at ⊢
 refine codeAny_loop rfl I (?_) n h
 delta n s hI
 show wpAny _ A ((compTurn (.ListComp elt [⟨target,iter,ifs,0⟩] scope pos) 0 it acc env).onRaise (fun x=>do noteFrame x env;theTreesLotGoes x)) _ _ s
 refine wpAny_noted ?_
 erw[compTurn_list]
 refine wpAny_bind (wpAny_standAt (wpAny_bind (wpAny_mono (turn n s hI) (?_) fun U U h'=>h'.elim)))
 delta r s₁ h₁
 cases r with
 | none=>exact wpAny_pure h₁
 | some v=>
  delta v at *
  refine wpAny_bind (wpAny_mono h₁ (?_) fun U U h'=>h'.elim)
  intro _
  delta s₁' h₁'
  refine wpAny_bind (wpAny_mono h₁' (fun U s₂ h₂=>wpAny_bind (wpAny_mono h₂ (?_) fun U U h'=>h'.elim)) fun U U h'=>h'.elim)
  delta ok s₃ h₃
  cases ok with
  | false=>exact wpAny_pure ⟨rfl,h₃⟩
  | true=>
   exact wpAny_bind (wpAny_bind (wpAny_mono h₃ (fun x s₄ h₄=>wpAny_bind (wpAny_mono h₄ (fun U s₅ h₅=>wpAny_pure (wpAny_pure ⟨rfl,h₅⟩)) fun U U h'=>h'.elim)) fun U U h'=>h'.elim))
end
section
variable {n:Nat} {η:aI} {σ:aj}
theorem xx {P:aS} {a b:Addr} {o:Obj} (h:P a=none) (hn:a≠b):put P b o a=none:=by erw[aD hn];exact h
def cB (n:Nat) (elt target iter:Expr) (ifs:List Expr) (ηk η:aI) (σ:aj) (G:List V→aj→Prop):Prop:=
 ∃J:Nat→List V→aj→Prop,TE n iter η σ fun l σ₁=>oJ l∧∃vs,iC l vs∧vs.length≤100000∧J 0 [] σ₁∧
  (∀i v out σ',vs[i]?=some v→J i out σ'→TA n target v ηk σ' fun η₂ σ₂=>dP η₂ ηk∧BG n ifs η₂ σ₂ fun b σ₃=>
   if b then TE n elt η₂ σ₃ (fun u σ₄=>J (i+1) (out++[u]) σ₄)else J (i+1) out σ₃)∧
  (∀out σ',J vs.length out σ'→G out σ')
theorem t7 {elt target iter:Expr} {ifs:List Expr} {scope:Scope} {pos cp:Pos} {use:Option (Value→Sem Unit)} {ηk:aI} {A:Around} {B P:aS} {env:Env} {s:Shared} {Q:Value→Shared→Prop} {G:List V→aj→Prop}
 (hA:iD A n) (I:et B P env η σ s) (hkind:scope.kind=.function) (hnd:kc (scope.names.map (fun U=>U.1))=true) (hdbg:scope.names.all (fun p=>!(p.1==("__debug__" :Str)))=true)
 (hk:oS η scope.names ηk) (h:cB n elt target iter ifs ηk η σ G)
 (fin:∀out σ' B' D C oC m' s',G out σ'→bh B B'→et B' (put P C oC) env η ((D,.lst out)::σ') s'→P C=none→zV oC m'→compPost S.M A ft use Q (.ref D) C (.ok .next) s')
 (hs:∀x,foldedSetIterable iter env x=pure x):
 wpAny S.M A (comprehension (.ListComp elt [⟨target,iter,ifs,0⟩] scope pos) scope env cp (newList []) false (eval iter env) use) Q ft s:=by
 delta n η σ elt target iter ifs scope pos cp use ηk A B P env s Q G hA I hkind hnd hdbg hk h fin hs at ⊢
 have hN:=ka hnd
 injection h with J h
 have hclos:closureFor scope env=pure (la env scope.names []):=by
  obtain⟨⟨_,_,_,_,E⟩,_,_⟩:=I
  exact u8 (hk.free E)
 refine wpAny_comprehension_free (g:=⟨target,iter,ifs,0⟩) (gs:=[]) rfl hs hclos hkind (fun x hx e=>cH hN (by erw[←e];exact hx)) ?_
 refine h A B P env s _ hA I ?_
 delta l σ₁ x s₁ B₁ h₁ H₁ I₁ hx
 injection h₁ with hr vs hi hz hJ turn hG
 obtain⟨⟨oL,m,I0,N,E⟩,pl,ok⟩:=I₁
 delta pl ok oL m I0 N E at *
 refine nV hA.hand I0 hi hr hx ?_
 delta St oI hfr W st
 have fr1:=I0.fresh
 have I1:aK B₁ (put (put P env.locals oL) s₁.heap.objs.size oI) σ₁ { s₁ with heap:=s₁.heap.push oI }:=
  (I0.keeps (t:=s₁.toks) (d:=s₁.drawn) (h':=s₁.heap.push oI) fun U U e=>Heap.get?_push_of_some _ e).protect (Heap.get?_push_size _ hfr) fr1.1 fr1.2.2
 generalize hs2:({ s₁ with heap:=s₁.heap.push oI }:Shared)=s₂ at I1 ⊢
 have hI2:s₂.heap=s₁.heap.push oI:=by erw[←hs2]
 rw[←hI2] at st
 generalize hIa:s₁.heap.objs.size=Ia at *
 have fr2:=I1.fresh
 refine wpAny_newObj_type ?_
 have I2:aK B₁ (put (put (put P env.locals oL) Ia oI) s₂.heap.objs.size (fu #[] 0)) σ₁ { s₂ with heap:=s₂.heap.push (fu #[] 0) }:=
  (I1.keeps (t:=s₂.toks) (d:=s₂.drawn) (h':=s₂.heap.push (fu #[] 0)) fun U U e=>Heap.get?_push_of_some _ e).protect (Heap.get?_push_size _ rfl) fr2.1 fr2.2.2
 change wpAny S.M A (newFunctionEnv scope env.globals (la env scope.names []) [] env.qual none .none (some env)) _ ft { s₂ with heap:=s₂.heap.push (fu #[] 0) }
 generalize hs3:({ s₂ with heap:=s₂.heap.push (fu #[] 0) }:Shared)=s₃ at I2 ⊢
 have st3:St 0 s₃.heap:=W.frame _ _ _ st (fun o e=>by erw[←hs3];exact Heap.get?_push_of_some _ e) (fun b o e=>I1.base _ _ e) (fun b o e=>I2.base _ _ e)
 have hDI:s₂.heap.objs.size≠Ia:=fun q=>by have:=fr2.2.1;rw[q,av] at this;cases this
 have hDS:=I1.freshS
 generalize hDa:s₂.heap.objs.size=D at *
 have fr3:=I2.fresh
 refine wpAny_newFunctionEnv hk.noCell (by intro y hy;simp at hy) (?_) hkind
 delta h₁ hns₁ hsb₁
 have k3:∀b o,s₃.heap.get? b=some o→h₁.get? b=some o:=fun b o e=>hsb₁.extBut b o (Nat.ne_of_lt (Heap.lt_size e)) (Heap.get?_push_of_some _ e)
 injection (zV.of hns₁) with oC hoC nC
 have I3:aK B₁ (put (put (put (put P env.locals oL) Ia oI) D (fu #[] 0)) s₃.heap.objs.size oC) σ₁ { s₃ with heap:=h₁ }:=
  (I2.keeps (t:=s₃.toks) (d:=s₃.drawn) (h':=h₁) k3).protect hoC fr3.1 fr3.2.2
 have st4:St 0 h₁:=W.frame _ _ _ st3 (fun o e=>k3 _ _ e) (fun b o e=>I2.base _ _ e) (fun b o e=>I3.base _ _ e)
 change codeAny S.M A _ _ { s₃ with heap:=h₁ }
 have hCD:s₃.heap.objs.size≠D:=fun q=>by have:=fr3.2.1;rw[q,av] at this;cases this
 have hCI:s₃.heap.objs.size≠Ia:=fun q=>by have:=fr3.2.1;rw[aD hCD,q,av] at this;cases this
 have hCL:s₃.heap.objs.size≠env.locals:=fun q=>by have:=fr3.2.1;rw[aD hCD,aD hCI,q,av] at this;cases this
 have hPC:P s₃.heap.objs.size=none:=by have:=fr3.2.1;rwa[aD hCD,aD hCI,aD hCL] at this
 have hIL:Ia≠env.locals:=fun q=>by have:=fr1.2.1;rw[q,av] at this;cases this
 have hPI:P Ia=none:=by have:=fr1.2.1;rwa[aD hIL] at this
 have hDL:D≠env.locals:=fun q=>by have:=fr2.2.1;rw[aD hDI,q,av] at this;cases this
 have hPD:P D=none:=by have:=fr2.2.1;rwa[aD hDI,aD hDL] at this
 generalize hs4:({ s₃ with heap:=h₁ }:Shared)=s₄ at I3 ⊢
 have st5:St 0 s₄.heap:=by erw[←hs4];exact st4
 generalize hCa:s₃.heap.objs.size=C at *
 -- the inner frame
 generalize hce:({ newEnv scope C env.globals (la env scope.names []) env.qual none .none (some env) builtinsNs with scope:=relabel scope env }:Env)=cenv
 have hcl:cenv.locals=C:=by erw[←hce];rfl
 have hkeys:=hk.keys
 have hEk:∀m',pw B₁ cenv m' ηk:=fun m'=>by
  refine⟨hk.slots E ok.kind (fun x c hx hc=>?_) (fun x kk hx=>?_),by erw[hkeys];exact hN,fun p hp=>?_⟩
  ·have:=om env scope.names [] hx
   rw[hc] at this
   erw[←hce]
   exact cH (kl env scope.names [] (by simpa using hN)) this
  ·erw[←hce]
   show List.lookup x (relabel scope env).names=_
   erw[pc]
   refine cH ?_ ?_
   ·have:(scope.names.map fun(n,k)=>if(k==NameKind.free&&env.scope.kind==ScopeKind.function&&env.kindOf n==some NameKind.cell) then(n,NameKind.cell) else(n,k)).map (fun U=>U.1)=scope.names.map (fun U=>U.1):=by
     erw[List.map_map];refine List.map_congr_left fun y U=>?_
     simp only[Function.comp];split<;>rfl
    erw[this];exact hN
   ·refine List.mem_map.mpr ⟨_,hx,?_⟩
    dsimp only
    split<;>rfl
  ·have:p.1∈scope.names.map (fun U=>U.1):=by erw[←hkeys];exact List.mem_map.mpr ⟨p,hp,rfl⟩
   injection (List.mem_map.mp this) with q hq e
   have:=List.all_eq_true.mp hdbg q hq
   erw[←e];simpa using this
 have hok:BJ cenv:=by erw[←hce];exact⟨hkind,ok.glob,ok.blt⟩
 have hpl:(put (put (put P env.locals oL) Ia oI) D (fu #[] 0)) cenv.locals=none:=by erw[hcl,aD hCD,aD hCI,aD hCL];exact hPC
 have I5:et B₁ (put (put (put P env.locals oL) Ia oI) D (fu #[] 0)) cenv ηk σ₁ s₄:=⟨⟨oC,_,by erw[hcl];exact I3,nC,hEk _⟩,hpl,hok⟩
 have loop:codeAny S.M A (.compLoop (.ListComp elt [⟨target,iter,ifs,0⟩] scope pos) 0 (.ref Ia) (.ref D) cenv) (compPost S.M A ft use Q (.ref D) C) s₄:=by
  refine qV (fun k s'=>∃i out σ' B' items mm o',k+i=vs.length∧out.length≤i∧J i out σ'∧bh B₁ B'∧et B' (put (put (put P env.locals oL) Ia o') D (fu items mm)) cenv ηk σ' s'∧cf B' out items.toList∧St i s'.heap) ?_ vs.length s₄
   ⟨0,[],σ₁,B₁,#[],0,oI,rfl,Nat.le_refl _,hJ,bh.refl _,I5,.nil,st5⟩
  delta k s' o'0
  injection o'0 with i out σ' B' items mm o' hm hol hJ H' I' hout st'
  injection I'.inv0 with P' J0
  have hb:∀b o,B₁ b=some o→s'.heap.get? b=some o:=fun b o e=>J0.base b o (H' b o e)
  have hP1:put (put P env.locals oL) D (fu items mm) Ia=none:=by erw[aD (Ne.symm hDI),aD hIL];exact hPI
  rw[gM (Ne.symm hDI)] at I'
  rcases Nat.lt_or_ge i vs.length with hlt|hge
  ·have hv:vs[i]?=some vs[i]:=by simp[hlt]
   refine W.item i s' _ _ hv st' hb fun y h' tk hy st₂ keep=>?_
   injection (I'.turn hP1 (t:=tk) keep) with nI bI sI I₂
   injection (W.obj _ _ st₂) with o₂ T ho₂ hc hT
   have I₃:=I₂.protect (o:=o₂) ho₂ bI nI sI
   refine lg ho₂ hc hT ?_
   refine turn i _ out σ' hv hJ A B' _ cenv _ y _ hA I₃ (hy.mono H') fun η₂ σ₂ s₂ B₂ q H₂ I₄=>?_
   injection q with hw q
   refine BG.run q hA I₄ fun b σ₃ s₃ B₃ q₃ H₃ I₅=>?_
   have stEnd:∀{B4:aS} {s4:Shared} {σ4:aj} {η4:aI} {o4:Obj},bh B' B4→et B4 (put (put (put P env.locals oL) D o4) Ia o₂) cenv η4 σ4 s4→St (i+1) s4.heap:=fun {B4 s4 σ4 η4 o4} HH II=>by
    obtain⟨y'1,plc,_⟩:=II;injection y'1 with oL5 m5 J6 _
    have hIC:Ia≠cenv.locals:=fun q=>by rw[←q,av] at plc;cases plc
    refine W.frame _ _ _ st₂ (fun ob eb=>?_) (fun b ob eb=>?_) (fun b ob eb=>J6.base _ _ ((H'.trans HH) _ _ eb))
    ·have:=J6.prot Ia o₂ (by erw[aD hIC,av])
     rw[←eb,ho₂] at *
     simpa using this
    ·injection I₃.inv0 with P3 J3
     exact J3.base _ _ (H' _ _ eb)
   cases b with
   | false=>
    simp only[Bool.false_eq_true,if_false] at q₃ ⊢
    injection (aC.weak hw _ _ _ _ I₅) with B₆ H₆ I₆
    have HH:=(H₂.trans H₃).trans H₆
    refine⟨k-1,by exact zo hm hlt,i+1,out,σ₃,B₆,items,mm,o₂,by exact zn hm hlt,by omega,q₃,H'.trans HH,?_,hout.mono HH,stEnd HH I₆⟩
    erw[gM (Ne.symm hDI)];exact I₆
   | true=>
    simp only[if_true] at q₃ ⊢
    refine q₃ A B₃ _ cenv s₃ _ hA I₅ fun u σ₄ z s₅ B₄ q₄ H₄ I₆ hz=>?_
    injection (aC.weak hw _ _ _ _ I₆) with B₆ H₆ I₆
    have HH:=((H₂.trans H₃).trans H₄).trans H₆
    have hpD:s₅.heap.get? D=some (fu items mm):=by
     obtain⟨y'1,plc,_⟩:=I₆;injection y'1 with oL5 m5 J6 _
     have hDC:D≠cenv.locals:=fun q=>by rw[←q,aD hDI,av] at plc;cases plc
     exact J6.prot D _ (by erw[aD hDC,aD hDI,av])
    have hsz:items.size=out.length:=by have:=hout.length;simpa using this.symm
    refine call_meets slot_list_append ⟨_,hpD,rfl⟩ entry_list_append (args_list_append _ _) (list_append D items mm _ (by erw[sizeLine_eq];exact Ko hsz hol hlt (by assumption) hm)) ⟨hpD,?_⟩
    rw[gM hDI] at I₆
    have hPD1:put (put P env.locals oL) Ia o₂ D=none:=by erw[aD hDI,aD hDL];exact hPD
    injection (I₆.turn hPD1 (t:=s₅.toks) (h':=s₅.heap.update D (Obj.mapSeq fun xs=>xs.push z)) (fun b ob hb' e=>(Heap.SameBut.update ..).extBut b ob hb' e)) with nD bD sD I₇
    have I₈:=I₇.protect (Heap.get?_update_self _ hpD rfl) bD nD sD
    have hP':=hout.mono HH
    have I₉:=I₈
    rw[gM (Ne.symm hDI)] at I₉
    refine⟨k-1,by exact zo hm hlt,i+1,out++[u],σ₄,B₆,items.push z,_,o₂,by exact zn hm hlt,by simp;omega,q₄,H'.trans HH,I₈,by simpa using hP'.append (.one (hz.mono H₆)),stEnd HH I₉⟩
  ·have hi':i=vs.length:=by exact DE hge hm
   subst hi'
   refine W.done s' _ st' hb fun h' tk keep=>?_
   injection (I'.turn hP1 (t:=tk) keep) with _ _ _ I₂
   -- the end
   obtain⟨y'1,plc,_⟩:=I₂;injection y'1 with oC' m' J6 N6 E6
   rw[hcl] at J6 plc
   have hDC:=Ne.symm hCD
   have gL:put (put (put P env.locals oL) D (fu items mm)) C oC' env.locals=some oL:=by erw[aD (Ne.symm hCL),aD (Ne.symm hDL),av]
   have gD:put (put (put P env.locals oL) D (fu items mm)) C oC' D=some (fu items mm):=by erw[aD hDC,av]
   have J7:aK B' (put (put P C oC') env.locals oL) σ' { s' with heap:=h',toks:=tk }:=J6.weakP fun a ob e=>by
    by_cases q1:a=env.locals
    ·subst q1;rw[av] at e;erw[gL];exact e
    ·rw[aD q1] at e
     by_cases q2:a=C
     ·subst q2;rw[av] at e ⊢;exact e
     ·rw[aD q2] at e ⊢
      erw[aD (fun q=>by subst q;rw[hPD] at e;cases e),aD q1];exact e
   have hDB:=J6.disj D _ gD
   have J8:=J7.sto_put (c:=.lst out) (fun U U e=>e) hDB (by erw[aD hDL,aD hDC];exact hPD) (fun p hp q=>by have:=(J6.sto p hp).2.1;rw[q,gD] at this;cases this) hDS (J6.prot D _ gD) ⟨items,mm,rfl,hout⟩ (t:=tk)
   refine fin out σ' B' D C oC' m' _ (hG _ _ hJ) (H₁.trans H') ⟨⟨oL,m,J8,N,E.mono H'⟩,xx pl (Ne.symm hCL),ok⟩ hPC N6
 show codeAny S.M A _ (compPost S.M A ft use Q (.ref D) C) s₄
 exact codeAny_compStart_list loop (dN (W.self 0 _ _ st5 loop))
inductive jU:aI→Str→Prop
 | un {x:Str} {η:aI}:jU ((x,.un)::η) x
 | val {x:Str} {v:V} {η:aI}:jU ((x,.val v)::η) x
 | there {p:Str×Sl} {x:Str} {η:aI}:jU η x→jU (p::η) x
theorem jU.kind {η:aI} {x:Str} (h:jU η x) {B:aS} {env:Env} {m:Str→Option Value} (H:∀p∈η,jS B env m p.1 p.2):env.kindOf x=some .local:=by
 induction h with
 | un=>exact H _ (.head _)
 | val=>exact(H _ (.head _)).1
 | there _ ih=>exact ih fun p hp=>H p (.tail _ hp)
theorem eW {elt target iter:Expr} {ifs:List Expr} {scope:Scope} {pos:Pos} {ηk:aI} {Q:V→aj→Prop} (hk:oS η scope.names ηk)
 (h:cB n elt target iter ifs ηk η σ fun out σ'=>∀a,Q (.loc a) ((a,.lst out)::σ'))
 (hkind:autoParam (scope.kind=.function) tR) (hnd:kc (scope.names.map (fun U=>U.1))=true:=by kernel_rfl) (hdbg:scope.names.all (fun p=>!(p.1==("__debug__" :Str)))=true:=by kernel_rfl)
 (hs:autoParam (∀env x,foldedSetIterable iter env x=pure x) tI):TE n (.ListComp elt [⟨target,iter,ifs,0⟩] scope pos) η σ Q:=fun A B P env s R hA I k=>by
 erw[eval_ListComp]
 show wpAny _ A (comprehension (.ListComp elt [⟨target,iter,ifs,0⟩] scope pos) scope env _ (newList []) false (eval iter env) none) _ _ s
 refine t7 (use:=none) hA I hkind hnd hdbg hk h (fun out σ' B' D C oC m' s' hG H I' hP hN=>?_) (hs env)
 have hC:s'.heap.get? C=some oC:=by
  obtain⟨⟨oL,m,J,_⟩,pl,_⟩:=I'
  have:C≠env.locals:=fun q=>by rw[←q,av] at pl;cases pl
  exact J.prot C oC (by erw[aD this,av])
 refine⟨m',hN.at hC,fun h' hs'=>?_⟩
 exact k (.loc D) _ (.ref D) _ B' (hG D) H (I'.turn hP (t:=s'.toks) (h':=h') fun b ob hb e=>hs'.extBut b ob hb e).2.2.2 (.loc D)
theorem cR {elt target iter:Expr} {ifs:List Expr} {scope:Scope} {pos spos py:Pos} {y:Str} {ηk:aI} {Q:Fl→aI→aj→Prop} (hk:oS η scope.names ηk) (hl:jU η y)
 (h:cB n elt target iter ifs ηk η σ fun out σ'=>∀a,∃η',bP η y (.loc a) η'∧Q .next η' ((a,.lst out)::σ'))
 (hpos:autoParam ((py.line==pos.line)=true) tR) (hy:(scope.names.any fun p=>p.1==y&&(p.2==.local||p.2==.cell))=false:=by kernel_rfl)
 (hkind:autoParam (scope.kind=.function) tR) (hnd:kc (scope.names.map (fun U=>U.1))=true:=by kernel_rfl) (hdbg:scope.names.all (fun p=>!(p.1==("__debug__" :Str)))=true:=by kernel_rfl)
 (hs:autoParam (∀env x,foldedSetIterable iter env x=pure x) tI):TS n (.Assign [.Name y py] (.ListComp elt [⟨target,iter,ifs,0⟩] scope pos) spos) η σ Q:=fun A B P env s R hA I k=>by
 have hloc:env.kindOf y=some .local:=by
  obtain⟨⟨_,_,_,_,E⟩,_,_⟩:=id I
  exact hl.kind E.slots
 ·have hb:env.blockKind=.function:=by
   have:=I.ok.kind
   unfold Env.blockKind;erw[this];rfl
  have hsw:swapsWith (.ListComp elt [⟨target,iter,ifs,0⟩] scope pos) (some (.Name y py)) spos.line env=pure true:=by
   unfold swapsWith
   simp only[hb,hloc,beq_self_eq_true,Bool.true_and]
   show pure _=pure true
   congr 1
   show((py.line==pos.line)&&!(scope.names.any fun p=>p.1==y&&(p.2==.local||p.2==.cell)))=true
   erw[hpos,hy];rfl
  erw[exec_Assign_Name_used _ _ _ _ hsw]
  refine wpAny_bind (wpAny_standAt (wpAny_bind ?_))
  show wpAny _ A (do let _ ←comprehension (.ListComp elt [⟨target,iter,ifs,0⟩] scope pos) scope env _ (newList []) false (eval iter env) (some (assign (.Name y py) env))) _ _ s
  refine wpAny_bind (wpAny_mono (Q:=fun U s'=>R .next s') (t7 (use:=some (assign (.Name y py) env)) hA I hkind hnd hdbg hk h (fun out σ' B' D C oC m' s' hG H I' hP hN=>?_) (hs env)) (fun U s' hq=>wpAny_pure (wpAny_pure hq)) fun U U e=>e)
  obtain⟨η',hset,q⟩:=hG D
  show wpAny _ A (assign (.Name y py) env (.ref D)) _ _ _
  refine wpAny_assign_Name (I'.store hset (.loc D) fun s'' I''=>?_)
  have hC:s''.heap.get? C=some oC:=by
   obtain⟨⟨oL,m,J,_⟩,pl,_⟩:=I''
   have:C≠env.locals:=fun q=>by rw[←q,av] at pl;cases pl
   exact J.prot C oC (by erw[aD this,av])
  refine⟨m',hN.at hC,fun h' hs'=>?_⟩
  exact k .next η' _ .next _ B' q H (I''.turn hP (t:=s''.toks) (h':=h') fun b ob hb e=>hs'.extBut b ob hb e).2.2.2 trivial
end
open PySem.SeqAt
mutual
inductive mA:Nat→V→V→Bool→Prop
 | int {d:Nat} (i j:Int):mA d (.int i) (.int j) (i==j)
 | str {d:Nat} (x y:Str):mA d (.str x) (.str y) (x==y)
 | tup {d:Nat} {vs us:List V} {b:Bool}:je d vs us b→mA (d+1) (.tup vs) (.tup us) b
 | lst {d:Nat} {vs us:List V} {b:Bool}:je d vs us b→mA (d+1) (.lst vs) (.lst us) b
inductive je:Nat→List V→List V→Bool→Prop
 | nil {d:Nat}:je d [] [] true
 | cons {d:Nat} {v u:V} {vs us:List V} {b c:Bool}:mA d v u b→je d vs us c→je d (v::vs) (u::us) (b&&c)
end
theorem je.length {d:Nat} {vs us:List V} {b:Bool} (h:je d vs us b):vs.length=us.length:=
 je.rec (motive_1:=fun U U U U U=>True) (motive_2:=fun U vs us U U=>vs.length=us.length) (fun U U=>trivial) (fun U U=>trivial) (fun U U=>trivial) (fun U U=>trivial) rfl (fun U U U ih=>congrArg (·+1) ih) h
theorem je.parts {d:Nat} {vs us:List V} {b:Bool} (h:je d vs us b):∃e:Nat→Bool,(List.range vs.length).all e=b∧∀j v u,vs[j]?=some v→us[j]?=some u→mA d v u (e j):=by
 refine je.rec (motive_1:=fun U U U U U=>True) (motive_2:=fun d vs us b U=>∃e:Nat→Bool,(List.range vs.length).all e=b∧∀j v u,vs[j]?=some v→us[j]?=some u→mA d v u (e j)) (fun U U=>trivial) (fun U U=>trivial) (fun U U=>trivial) (fun U U=>trivial) ⟨fun U=>true,rfl,fun j v u h=>by simp at h⟩ (fun {d v u vs us b c} h r _ ih=>?_) h;obtain⟨e,he,hj⟩:=ih;refine⟨fun j=>match j with|0=>b|k+1=>e k,?_,fun j v u hv hu=>?_⟩
 ·erw[List.length_cons,List.range_succ_eq_map,List.all_cons,List.all_map,←he];rfl
 ·cases j with
  | zero=>simp at hv hu;subst hv hu;exact h
  | succ k=>simp at hv hu;exact hj k v u hv hu
section
variable {B:aS}
theorem VR.tupR {vs:List V} {a:Addr} (h:VR B (.tup vs) (.ref a)):∃items n,B a=some (mD items n)∧cf B vs items.toList:=by cases h with|tup e r=>exact⟨_,_,e,r⟩
theorem VR.lstR {vs:List V} {a:Addr} (h:VR B (.lst vs) (.ref a)):∃items n,B a=some (fu items n)∧cf B vs items.toList:=by revert B vs a h;delta B vs a h;cases h with|lst e r=>exact⟨_,_,e,r⟩
@[elab_as_elim] theorem VR.itup {vs:List V} {x:Value} {motive:Value→Prop} (h:VR B (.tup vs) x) (f:∀a items n,B a=some (mD items n)→cf B vs items.toList→motive (.ref a)):motive x:=by cases h with|tup e r=>exact f _ _ _ e r
@[elab_as_elim] theorem VR.ilst {vs:List V} {x:Value} {motive:Value→Prop} (h:VR B (.lst vs) x) (f:∀a items n,B a=some (fu items n)→cf B vs items.toList→motive (.ref a)):motive x:=by cases h with|lst e r=>exact f _ _ _ e r
theorem VR.intR {i j:Int} {t:Tok} (h:VR B (.int i) (.int j t)):i=j:=by cases h;rfl
theorem VR.strR {i j:Str} {t:Tok} (h:VR B (.str i) (.str j t)):i=j:=by revert B i j t h;delta B i j t h;cases h;rfl
theorem cf.consR {v:V} {vs:List V} {x:Value} {xs:List Value} (h:cf B (v::vs) (x::xs)):VR B v x∧cf B vs xs:=by revert B v vs x xs h;delta B v vs x xs h;cases h with|cons a b=>exact⟨a,b⟩
theorem mA.same {d:Nat} {v u:V} {b:Bool} {x:Value} (h:mA d v u b) (h1:VR B v x) (h2:VR B u x):b=true:=by
 refine mA.rec (motive_1:=fun U v u b U=>∀x,VR B v x→VR B u x→b=true) (motive_2:=fun U vs us b U=>∀xs,cf B vs xs→cf B us xs→b=true)
  (fun i j x h1=>VR.iint (motive:=fun x=>VR B (.int j) x→(i==j)=true) h1 fun t h2=>beq_iff_eq.mpr h2.intR.symm)
  (fun i j x h1=>VR.istr (motive:=fun x=>VR B (.str j) x→(i==j)=true) h1 fun t h2=>beq_iff_eq.mpr h2.strR.symm)
  (fun {d vs us b} _ ih x h1=>VR.itup (motive:=fun x=>VR B (.tup us) x→b=true) h1 fun a items n e r h2=>?_)
  (fun {d vs us b} _ ih x h1=>VR.ilst (motive:=fun x=>VR B (.lst us) x→b=true) h1 fun a items n e r h2=>?_)
  (fun U U U=>rfl)
  (fun {d v u vs us b c} _ _ i1 i2 xs h1=>cf.icons (motive:=fun xs=>cf B (u::us) xs→(b&&c)=true) h1 fun x ys q1 q2 h2=>by erw[i1 x q1 h2.consR.1,i2 ys q2 h2.consR.2];rfl) h x h1 h2
 ·obtain⟨i2,n2,e2,r2⟩:=h2.tupR
  rw[e]at e2;cases e2
  exact ih _ r r2
 ·obtain⟨i2,n2,e2,r2⟩:=h2.lstR
  rw[e]at e2;cases e2
  exact ih _ r r2
set_option tactic.hygienic true in
theorem oh:∀(d:Nat) {v u:V} {b:Bool} {x y:Value} {A:Around} {P:aS} {σ:aj} {s:Shared},mA d v u b→aK B P σ s→VR B v x→VR B u y→A.units + d < cLine→EqAt A s x y b
 | d,_,_,_,_,_,A,P,σ,s,.int i j,I,hx,hy,hu=>by injection hx;injection hy;exact (MeetsSeq.EqGives.int _ _ _ _).at _ _
 | d,_,_,_,_,_,A,P,σ,s,.str x y,I,hx,hy,hu=>by
  injection hx;injection hy
  have e:(x == y)=(x.cps.toList == y.cps.toList):=by
   erw [Bool.eq_iff_iff,beq_iff_eq,beq_iff_eq];exact ⟨fun h=>by erw [h],fun h=>by cases x;cases y;simp at h;simp [h]⟩
  erw [e];exact MeetsSeq.EqGives.at (SeqRoads2.EqGives.str x y _ _) A s
 | d + 1,_,_,b,x,y,A,P,σ,s,.tup (vs:=vs) (us:=us) e,I,hx,hy,hu=>by
  cases hx with
  | tup e1 r1=>
   cases hy with
   | tup e2 r2=>
    rename_i a1 i1 n1 a2 i2 n2;by_cases hne:a1=a2
    ·subst hne;erw [mA.same (.tup e) (.tup e1 r1) (.tup e2 r2)];exact EqAt.same _
    ·refine EqAt.of_refs hne ?_;obtain ⟨f,hf,hj⟩:=e.parts;have l1:=r1.length
     have l2:=r2.length
     have l3:=e.length
     have:=RcAt.tuples (A:=A) (s:=s) (e:=f) ⟨_,I.base _ _ e1,rfl,n1,rfl⟩ ⟨_,I.base _ _ e2,rfl,n2,rfl⟩ (by exact Dy hu) fun j h1 h2=>by
      obtain ⟨x1,hx1,q1⟩:=r1.get (i:=j) (v:=vs[j]'(by simp at l1;exact uI h1 l1)) (by simp);obtain ⟨x2,hx2,q2⟩:=r2.get (i:=j) (v:=us[j]'(by simp at l2;exact uI h2 l2)) (by simp);simp at hx1 hx2;obtain ⟨_,rfl⟩:=Array.getElem?_eq_some_iff.mp hx1;obtain ⟨_,rfl⟩:=Array.getElem?_eq_some_iff.mp hx2;exact oh d (hj j _ _ (by simp) (by simp)) I q1 q2 (by show A.units + 1 + d < cLine;exact Dx hu)
     have es:i1.size=i2.size:=by simp at l1 l2;exact Cj l1 l3 l2
     rw [es] at this;simp only [Nat.min_self,beq_self_eq_true,Bool.and_true] at this;erw [← hf];have:vs.length=i2.size:=by simp at l1;exact Kn l1 es
     erw [this];assumption
 | d + 1,_,_,b,x,y,A,P,σ,s,.lst (vs:=vs) (us:=us) e,I,hx,hy,hu=>by
  cases hx with
  | lst e1 r1=>
   cases hy with
   | lst e2 r2=>
    rename_i a1 i1 n1 a2 i2 n2;by_cases hne:a1=a2
    ·subst hne;erw [mA.same (.lst e) (.lst e1 r1) (.lst e2 r2)];exact EqAt.same _
    ·refine EqAt.of_refs hne ?_;obtain ⟨f,hf,hj⟩:=e.parts;have l1:=r1.length
     have l2:=r2.length
     have l3:=e.length
     have es:i1.size=i2.size:=by simp at l1 l2;exact Cj l1 l3 l2
     have:=RcAt.lists (A:=A) (s:=s) (e:=f) ⟨_,I.base _ _ e1,rfl,n1,rfl⟩ ⟨_,I.base _ _ e2,rfl,n2,rfl⟩ es (by exact Dy hu) fun j h1 h2=>by
      obtain ⟨x1,hx1,q1⟩:=r1.get (i:=j) (v:=vs[j]'(by simp at l1;exact uI h1 l1)) (by simp);obtain ⟨x2,hx2,q2⟩:=r2.get (i:=j) (v:=us[j]'(by simp at l2;exact Km h1 l2 es)) (by simp);simp at hx1 hx2;obtain ⟨_,rfl⟩:=Array.getElem?_eq_some_iff.mp hx1;obtain ⟨_,rfl⟩:=Array.getElem?_eq_some_iff.mp hx2;exact oh d (hj j _ _ (by simp) (by simp)) I q1 q2 (by show A.units + 1 + d < cLine;exact Dx hu)
     erw [← hf];have:vs.length=i1.size:=by simp at l1;omega
     erw [this];assumption
end
section
variable {n:Nat} {η:aI} {σ:aj} {Q:V→aj→Prop}
theorem iD.cl {A:Around} {n:Nat} (h:iD A n):A.units+50<cLine:=by have:=h.units;show A.units+50<9900;exact Kl this
theorem aK.eqvs {B P:aS} {s:Shared} {A:Around} {vs us:List V} {xs ys:Array Value} {b:Bool} (I:aK B P σ s) (hA:iD A n) (e:je 10 vs us b) (r1:cf B vs xs.toList) (r2:cf B us ys.toList):
 ∃f:Nat→Bool,xs.size=ys.size∧(List.range xs.size).all f=b∧∀j (h1:j<xs.size) (h2:j<ys.size),EqAt A.in1 s xs[j] ys[j] (f j):=by
 obtain⟨f,hf,hj⟩:=e.parts;have l1:=r1.length
 have l2:=r2.length
 have l3:=e.length
 simp at l1 l2;refine⟨f,by exact Cj l1 l3 l2,by erw[←l1];exact hf,fun j h1 h2=>?_⟩;obtain⟨x1,hx1,q1⟩:=r1.get (i:=j) (v:=vs[j]'(by exact uI h1 l1)) (by simp);obtain⟨x2,hx2,q2⟩:=r2.get (i:=j) (v:=us[j]'(by exact Kk h1 l3 l1)) (by simp);simp at hx1 hx2;obtain⟨_,rfl⟩:=Array.getElem?_eq_some_iff.mp hx1;obtain⟨_,rfl⟩:=Array.getElem?_eq_some_iff.mp hx2;have:=hA.cl
 exact oh 10 (hj j _ _ (by simp) (by simp)) I q1 q2 (by show A.units+1+10<cLine;exact Ci this)
theorem iI {a b:V} {vs us:List V} {c:Bool} (h1:aM σ a (.lst vs)) (h2:aM σ b (.lst us)) (e:je 10 vs us c) (q:Q (.bool (!c)) σ):T2 n (compareOp .NotEq) a b σ Q:=fun A B P s x y R hA I hx hy k=>by
 obtain⟨a1,o1,rfl,e1,c1⟩:=I.view h1 hx;obtain⟨a2,o2,rfl,e2,c2⟩:=I.view h2 hy;obtain⟨i1,m1,rfl,l1,r1⟩:=c1.isList e1;obtain⟨i2,m2,rfl,l2,r2⟩:=c2.isList e2;obtain⟨f,hs,hf,he⟩:=I.eqvs hA e r1 r2;have:=hA.cl
 refine RcNeAt.lists l1 l2 hs (by exact zm this) he _ _ _ _ ?_;erw[hf];exact k _ σ _ s B q (bh.refl _) I (.bool _)
theorem C4 {a b:V} {vs us:List V} {c:Bool} (h1:aM σ a (.lst vs)) (h2:aM σ b (.lst us)) (e:je 10 vs us c) (q:Q (.bool c) σ):T2 n (compareOp .Eq) a b σ Q:=fun A B P s x y R hA I hx hy k=>by
 obtain⟨a1,o1,rfl,e1,c1⟩:=I.view h1 hx;obtain⟨a2,o2,rfl,e2,c2⟩:=I.view h2 hy;obtain⟨i1,m1,rfl,l1,r1⟩:=c1.isList e1;obtain⟨i2,m2,rfl,l2,r2⟩:=c2.isList e2;obtain⟨f,hs,hf,he⟩:=I.eqvs hA e r1 r2;have:=hA.cl
 refine eq_listAt l1 l2 hs (by exact zm this) he ?_;erw[hf];exact k _ σ _ s B q (bh.refl _) I (.bool _)
theorem C3 {a b:V} {vs us:List V} (h1:aM σ a (.lst vs)) (h2:aM σ b (.lst us)) (e:vs.length≠us.length) (q:Q (.bool false) σ):T2 n (compareOp .Eq) a b σ Q:=fun A B P s x y R hA I hx hy k=>by
 obtain⟨a1,o1,rfl,e1,c1⟩:=I.view h1 hx;obtain⟨a2,o2,rfl,e2,c2⟩:=I.view h2 hy;obtain⟨i1,m1,rfl,l1,r1⟩:=c1.isList e1;obtain⟨i2,m2,rfl,l2,r2⟩:=c2.isList e2;have:=hA.cl
 have z1:=r1.length
 have z2:=r2.length
 simp at z1 z2;exact eq_list_lengthsAt l1 l2 (by erw[bne_iff_ne];exact Dw z1 e z2) (by exact zm this) (k _ σ _ s B q (bh.refl _) I (.bool _))
theorem BW {a b:V} {vs us:List V} (h1:aM σ a (.lst vs)) (h2:aM σ b (.lst us)) (e:vs.length≠us.length) (q:Q (.bool true) σ):T2 n (compareOp .NotEq) a b σ Q:=fun A B P s x y R hA I hx hy k=>by
 obtain⟨a1,o1,rfl,e1,c1⟩:=I.view h1 hx;obtain⟨a2,o2,rfl,e2,c2⟩:=I.view h2 hy;obtain⟨i1,m1,rfl,l1,r1⟩:=c1.isList e1;obtain⟨i2,m2,rfl,l2,r2⟩:=c2.isList e2;have:=hA.cl
 have z1:=r1.length
 have z2:=r2.length
 simp at z1 z2;exact RcNeAt.lists_lengths l1 l2 (by erw[bne_iff_ne];exact Dw z1 e z2) (by exact zm this) _ _ _ _ (k _ σ _ s B q (bh.refl _) I (.bool _))
theorem C5 {a b:V} {vs:List V} (h1:aM σ a (.lst vs)) (h2:aM σ b (.lst [])) (q:Q (.bool vs.isEmpty) σ):T2 n (compareOp .Eq) a b σ Q:=by
 cases vs with
 | nil=>exact C4 h1 h2 .nil q
 | cons v r=>exact C3 h1 h2 (by simp) q
theorem qv {a b:V} {vs:List V} (h1:aM σ a (.lst vs)) (h2:aM σ b (.lst [])) (q:Q (.bool (!vs.isEmpty)) σ):T2 n (compareOp .NotEq) a b σ Q:=by
 cases vs with
 | nil=>exact iI h1 h2 .nil q
 | cons v r=>exact BW h1 h2 (by simp) q
theorem aK.among {B P:aS} {s:Shared} {A:Around} {us:List V} {v:V} {x:Value} {xs:Array Value} {e:V→Bool} (I:aK B P σ s) (hA:iD A n) (he:∀u∈us,mA 10 u v (e u)) (r:cf B us xs.toList) (hx:VR B v x):
 ∃f:Value→Bool,xs.any f=us.any e∧∀y,y∈xs→EqAt A.in1 s y x (f y):=by
 delta n σ B P s A us v x xs e I hA he r hx at ⊢
 classical
 have l:=r.length
 simp at l
 have hcl:=hA.cl
 refine⟨fun y=>decide (∃u,u∈us∧VR B u y∧e u=true),?_,fun y hy=>?_⟩
 ·erw[Bool.eq_iff_iff,List.any_eq_true]
  simp only[Array.any_eq_true,decide_eq_true_eq]
  constructor
  ·rintro⟨j,hj,u,hu,_,h⟩;exact⟨u,hu,h⟩
  ·rintro⟨u,hu,h⟩
   obtain⟨j,hj,rfl⟩:=List.mem_iff_getElem.mp hu
   obtain⟨y,hy,q⟩:=r.get (i:=j) (v:=us[j]) (by simp)
   simp at hy
   obtain⟨hlt,rfl⟩:=Array.getElem?_eq_some_iff.mp hy
   exact⟨j,hlt,us[j],hu,q,h⟩
 ·by_cases h:∃u,u∈us∧VR B u y∧e u=true
  ·obtain⟨u,hu,q,hh⟩:=id h
   dsimp only
   erw[decide_eq_true h,←hh]
   exact oh 10 (he u hu) I q hx (by show A.units+1+10<cLine;exact Ci hcl)
  ·dsimp only
   erw[decide_eq_false h]
   obtain⟨j,hj,rfl⟩:=Array.mem_iff_getElem.mp hy
   obtain⟨y,hy,q⟩:=r.get (i:=j) (v:=us[j]'(by exact uI hj l)) (by simp)
   simp at hy
   obtain⟨hlt,rfl⟩:=Array.getElem?_eq_some_iff.mp hy
   have hm:us[j]'(by exact uI hj l)∈us:=List.getElem_mem _
   have h2:e (us[j]'(by exact uI hj l))=false:=by
    cases hz:e (us[j]'(by exact uI hj l))with
    | false=>rfl
    | true=>exact absurd ⟨_,hm,q,hz⟩ h
   have:=he _ hm
   rw[h2]at this
   exact oh 10 this I q hx (by show A.units+1+10<cLine;exact Ci hcl)
theorem ux {l v:V} {us:List V} (e:V→Bool) (hl:aM σ l (.lst us)) (he:∀u∈us,mA 10 u v (e u)) (q:Q (.bool (!us.any e)) σ):T2 n (compareOp .NotIn) v l σ Q:=fun A B P s x y R hA I hx hy k=>by
 obtain⟨a1,o1,rfl,e1,c1⟩:=I.view hl hy;obtain⟨i1,m1,rfl,l1,r1⟩:=c1.isList e1;obtain⟨f,hf,hh⟩:=I.among hA he r1 hx;refine notIn_listAt f l1 hh ?_;erw[hf];exact k _ σ _ s B q (bh.refl _) I (.bool _)
def Lp (y:Str):V→Bool|.str x=>x==y|_=>false
theorem Cx {y:Str} {us:List Str}:∀u∈us.map V.str,mA 10 u (.str y) (Lp y u):=fun u hu=>by
 obtain⟨i,_,rfl⟩:=List.mem_map.mp hu;exact .str i y
theorem rE {value upper:Expr} {p pos:Pos} (h:TE n value η σ fun o σ₁=>TE n upper η σ₁ fun i σ₂=>∃vs k,i=.int (k:Nat)∧aM σ₂ o (.lst vs)∧vs.length≤1000000∧∀a,Q (.loc a) ((a,.lst (vs.take k))::σ₂))
 (ht:autoParam (∀o r,letTemporaryGo value o r=pure ()) tI)
 (hp:autoParam (∀env,evalPart (some upper) env=eval upper env) tI) (hn:autoParam (∀env,evalPart none env=pure .none) tI):TE n (.Subscript value (.Slice none (some upper) none p) pos) η σ Q:=fun A B P env s R hA I k=>by
 refine wpAny_Subscript_Slice slot_list_getitem.lookup (h A B P env s _ hA I fun o σ₁ x s₁ B₁ h₁ H₁ I₁ hx=>?_) ht
 refine wpAny_Slice ?_
 erw[hn,hp]
 refine wpAny_pure (h₁ A B₁ P env s₁ _ hA I₁ fun i σ₂ y s₂ B₂ h₂ H₂ I₂ hy=>wpAny_pure ?_)
 obtain⟨vs,kk,rfl,hv,hz,q⟩:=h₂
 obtain⟨oL,I3,back⟩:=I₂.lift
 obtain⟨a1,o1,rfl,e1,c1⟩:=I3.view hv (hx.mono H₂)
 obtain⟨i1,m1,rfl,l1,r1⟩:=c1.isList e1
 cases hy with
 | int _ t=>
  have hl:=r1.length
  simp at hl
  have I4:=I3.keeps (t:=s₂.toks) (d:=s₂.drawn) (h':=s₂.heap.push { cls:=.type "slice",data:=.fields #[.none,.int (kk:Nat) t,.none] }) fun U U e=>Heap.get?_push_of_some _ e
  refine⟨(l1.push _).typeIs,wpAny_getItem_list_slice (l1.push _) (Heap.IsSliceOf.new ..) .none (.int _ t) .none (by simp) ?_ (by erw[sizeLine_eq];exact xu hl hz)⟩
  have I5:=I4.push_sto (o:={ cls:=.type "list",data:=.seq (slicePick i1 none (some ((kk:Nat):Int)) none) }) (c:=.lst (vs.take kk)) rfl ⟨_,_,rfl,by erw[slicePick_upto'];simpa using r1.take kk⟩
  exact k _ _ _ _ B₂ (q _) (H₁.trans H₂) (back _ _ _ (bh.refl _) I5) (.loc _)
theorem eV {l:V} {vs:List V} (hl:aM σ l (.lst vs)) (hz:vs.length≤1000000) (q:∀a,Q (.loc a) ((a,.lst vs)::σ)):TL n (fun xs=>PySem.call (.type "list") xs) [l] σ Q:=fun A B P s xs R hA I hx k=>by
 injection hx with h1 h2
 next=>
  injection h2;obtain⟨a1,o1,rfl,e1,c1⟩:=I.view hl h1;obtain⟨i1,m1,rfl,l1,r1⟩:=c1.isList e1;have hl:=r1.length
  simp at hl;refine call_list_seq a1 (.inl rfl) e1 rfl rfl (fun h' c' hk hg=>?_) (by erw[sizeLine_eq];exact xu hl hz);have fr:=I.fresh
  exact k _ _ _ _ B (q _) (bh.refl _) (I.sto_put (t:=s.toks) (c:=.lst vs) hk fr.1 fr.2.1 fr.2.2 I.freshS hg ⟨_,_,rfl,r1⟩) (.loc _)
theorem yO {l b:V} {vs us:List V} (hl:aM σ l (.lst vs)) (hb:aM σ b (.lst us)) (hz:vs.length+us.length≤1000000) (q:∀a,Q (.loc a) ((a,.lst (vs++us))::σ)):T2 n (binaryOp .Add) l b σ Q:=fun A B P s x y R hA I hx hy k=>by
 obtain⟨a1,o1,rfl,e1,c1⟩:=I.view hl hx;obtain⟨a2,o2,rfl,e2,c2⟩:=I.view hb hy;obtain⟨i1,m1,rfl,l1,r1⟩:=c1.isList e1;obtain⟨i2,m2,rfl,l2,r2⟩:=c2.isList e2;have z1:=r1.length
 have z2:=r2.length
 simp at z1 z2;refine PySem.P.add_list e1 e2 ?_ (by erw[sizeLine_eq];exact Kj hz z1 z2);exact k _ _ _ _ B (q _) (bh.refl _) (I.push_sto (c:=.lst (vs++us)) rfl ⟨_,_,rfl,by simpa using r1.append r2⟩) (.loc _)
end
section
variable {n:Nat} {η:aI} {σ:aj} {Q:V→aj→Prop}
theorem lj.vals {B:aS} {kvs:List (Int×V)} {ps:List (Int×Value)} (r:lj B kvs ps) (k:Int):(∃v y,aB kvs k=some v∧valueAt ps k=some y∧VR B v y)∨(aB kvs k=none∧valueAt ps k=none):=by
 cases h:aB kvs k with
 | none=>exact .inr ⟨rfl,r.look_none h⟩
 | some v=>obtain⟨y,hy,q⟩:=r.look h;exact .inl ⟨v,y,rfl,hy,q⟩
theorem ko.vals {B:aS} {kvs:List (Str×V)} {ps:List (Str×Value)} (r:ko B kvs ps) (k:Str):(∃v y,aB kvs k=some v∧valueAt ps k=some y∧VR B v y)∨(aB kvs k=none∧valueAt ps k=none):=by
 cases h:aB kvs k with
 | none=>exact .inr ⟨rfl,r.look_none h⟩
 | some v=>obtain⟨y,hy,q⟩:=r.look h;exact .inl ⟨v,y,rfl,hy,q⟩
theorem wM {d u:V} {kvs:List (Int×V)} {i:Int} (hd:aM σ d (.dI kvs)) (q:Q ((aB kvs i).getD u) σ):TL n (fun xs=>PySem.call (.builtin "dict.get") xs) [d,.int i,u] σ Q:=fun A B P s xs R hA I hx k=>by
 injection hx with h1 h2;next=>
 injection h2 with h3 h4;next=>
 injection h4 with h5 h6
 next=>
  injection h6;injection h3;obtain⟨a1,o1,rfl,e1,ps,D,rs⟩:=I.view hd h1;have ns:=I.notSys hd (fun U h=>by injection h) h1
  refine call_meetsIn F.slot_dict_get (D.at _ e1).typeIs F.entry_dict_get (F.args_dict_get_3 _ _ _) (meets_dict_get_default (intKind S.prog S.w) a1 (k:=i) (by simp[intKind,Value.isInt]) ns _) ⟨_,(D.at _ e1).mapOf,?_⟩;rcases rs.vals i with⟨v,y,g1,g2,r⟩|⟨g1,g2⟩
  ·rw[g1]at q;show R ((valueAt ps i).getD _) _
   erw[g2];exact k v σ y _ B q (bh.refl _) (I.toks _) r
  ·rw[g1]at q;show R ((valueAt ps i).getD _) _
   erw[g2];exact k u σ _ _ B q (bh.refl _) (I.toks _) h5
theorem rD {d:V} {kvs:List (Int×V)} {i:Int} (hd:aM σ d (.dI kvs)) (q:Q ((aB kvs i).getD .none) σ):TL n (fun xs=>PySem.call (.builtin "dict.get") xs) [d,.int i] σ Q:=fun A B P s xs R hA I hx k=>by
 injection hx with h1 h2;next=>
 injection h2 with h3 h4
 next=>
  injection h4;injection h3;obtain⟨a1,o1,rfl,e1,ps,D,rs⟩:=I.view hd h1;have ns:=I.notSys hd (fun U h=>by injection h) h1
  refine call_meetsIn F.slot_dict_get (D.at _ e1).typeIs F.entry_dict_get (F.args_dict_get_2 _ _) (meets_dict_get (intKind S.prog S.w) a1 (k:=i) (by simp[intKind,Value.isInt]) ns) ⟨_,(D.at _ e1).mapOf,?_⟩;rcases rs.vals i with⟨v,y,g1,g2,r⟩|⟨g1,g2⟩
  ·rw[g1]at q;show R ((valueAt ps i).getD _) _
   erw[g2];exact k v σ y _ B q (bh.refl _) (I.toks _) r
  ·rw[g1]at q;show R ((valueAt ps i).getD _) _
   erw[g2];exact k .none σ .none _ B q (bh.refl _) (I.toks _) .none
theorem mI {d u:V} {kvs:List (Str×V)} {i:Str} (hd:aM σ d (.dS kvs)) (q:Q ((aB kvs i).getD u) σ):TL n (fun xs=>PySem.call (.builtin "dict.get") xs) [d,.str i,u] σ Q:=fun A B P s xs R hA I hx k=>by
 injection hx with h1 h2;next=>
 injection h2 with h3 h4;next=>
 injection h4 with h5 h6
 next=>
  injection h6;injection h3;obtain⟨a1,o1,rfl,e1,ps,D,rs⟩:=I.view hd h1;have ns:=I.notSys hd (fun U h=>by injection h) h1
  refine call_meetsIn F.slot_dict_get (D.at _ e1).typeIs F.entry_dict_get (F.args_dict_get_3 _ _ _) (meets_dict_get_default (PySem.strKind S.prog S.w) a1 (k:=i) (by simp[PySem.strKind,Value.isStrOf]) ns _) ⟨_,(D.at _ e1).mapOf,?_⟩;rcases rs.vals i with⟨v,y,g1,g2,r⟩|⟨g1,g2⟩
  ·rw[g1]at q;show R ((valueAt ps i).getD _) _
   erw[g2];exact k v σ y _ B q (bh.refl _) (I.toks _) r
  ·rw[g1]at q;show R ((valueAt ps i).getD _) _
   erw[g2];exact k u σ _ _ B q (bh.refl _) (I.toks _) h5
theorem wN {d:V} {kvs:List (Int×V)} (hd:aM σ d (.dI kvs)) (hz:kvs.length≤1000000) (q:∀a,Q (.loc a) ((a,.dI kvs)::σ)):TL n (fun xs=>PySem.call (.type "dict") xs) [d] σ Q:=fun A B P s xs R hA I hx k=>by
 injection hx with h1 h2
 next=>
  injection h2;obtain⟨a1,o1,rfl,e1,ps,D,rs⟩:=I.view hd h1;have ns:=I.notSys hd (fun U h=>by injection h) h1
  refine kt_call_dict ns (D.at _ e1) (by erw[←rs.length,sizeLine_eq];omega) fun h' hm hs=>?_
  obtain⟨o',ho',D'⟩:=OD.of _ hm;have fr:=I.fresh
  have kk:∀b o,s.heap.get? b=some o→h'.get? b=some o:=fun b o e=>hs.extBut b o (Nat.ne_of_lt (Heap.lt_size e)) (Heap.get?_push_of_some _ e)
  exact k _ _ _ _ B (q _) (bh.refl _) (I.sto_put (t:=s.toks) (c:=.dI kvs) kk fr.1 fr.2.1 fr.2.2 I.freshS ho' ⟨_,D',rs⟩) (.loc _)
def D0 (x:Str):Value→Bool|.str a _=>a.cps.toList==x.cps.toList|_=>false
theorem yf {x y:Str}:(x.cps.toList==y.cps.toList)=(x==y):=by
 erw[Bool.eq_iff_iff,beq_iff_eq,beq_iff_eq];exact⟨fun h=>by cases x;cases y;simp at h;simp[h],fun h=>by erw[h]⟩
theorem kz {l:V} {x:Str} {us:List Str} {j:Nat} (hl:aM σ l (.lst (us.map V.str))) (hz:us.length≤1000000) (hj:us[j]?=some x) (hno:∀m,m<j→us[m]?≠some x) (q:Q (.int (j:Nat)) σ):
 TL n (fun xs=>PySem.call (.builtin "list.index") xs) [l,.str x] σ Q:=by
 delta n σ Q l x us j hl hz hj hno q at ⊢;delta A B P s xs R hA I hx k;injection hx with h1 h2;next=>
 injection h2 with h3 h4
 next=>
  injection h4;obtain⟨a1,o1,rfl,e1,c1⟩:=I.view hl h1;obtain⟨i1,m1,rfl,l1,r1⟩:=c1.isList e1;have z1:=r1.length
  simp at z1;cases h3 with
  | str _ t=>
  have hjl:j<us.length:=by rw[List.getElem?_eq_some_iff]at hj;exact hj.1
  have hit:∀m (hm:m<i1.size),∃t',i1[m]=.str (us[m]'(by exact uI hm z1)) t':=fun m hm=>by
   obtain⟨y,hy,q⟩:=r1.get (i:=m) (v:=.str (us[m]'(by exact uI hm z1))) (by simp);simp at hy;obtain⟨_,rfl⟩:=Array.getElem?_eq_some_iff.mp hy;generalize i1[m]=y at q;cases q;exact⟨_,rfl⟩
  refine call_meets F.slot_list_index ⟨_,e1,rfl⟩ F.entry_list_index (F.args_list_index_2 _ _) (MeetsSeq.list_index a1 i1 m1 (.str x t) (D0 x) ?_ j (by exact Dv hjl z1) (by exact Ki hjl hz) ?_ ?_) ⟨e1,?_⟩
  ·intro y hy;obtain⟨m,hm,rfl⟩:=Array.mem_iff_getElem.mp hy;obtain⟨t',e⟩:=hit m hm;erw[e];exact SeqRoads2.EqGives.str _ _ _ _
  ·obtain⟨t',e⟩:=hit j (by exact Dv hjl z1);erw[e];show(_==_)=true
   erw[yf,beq_iff_eq];rw[List.getElem?_eq_some_iff]at hj;exact hj.2
  ·intro m hm hmj;obtain⟨t',e⟩:=hit m hm;erw[e];show(_==_)=false
   erw[yf,beq_eq_false_iff_ne];intro h;exact hno m hmj (by erw[List.getElem?_eq_some_iff];exact⟨by exact tC hmj hjl,h⟩)
  ·exact k _ σ _ _ B q (bh.refl _) (I.toks _) (.int _ _)
theorem BK {l:V} {us:List Int} (hl:aM σ l (.lst (us.map V.int))) (q:∀j,Q (.int j) σ):TL n (fun xs=>PySem.call (.builtin "sum") xs) [l] σ Q:=by
 delta n σ Q l us hl q at ⊢;delta A B P s xs R hA I hx k;injection hx with h1 h2
 next=>
  injection h2;obtain⟨a1,o1,rfl,e1,c1⟩:=I.view hl h1;obtain⟨i1,m1,rfl,l1,r1⟩:=c1.isList e1;have z1:=r1.length
  simp at z1
  have hall:AllInts i1:=fun v hv=>by
   obtain⟨m,hm,rfl⟩:=Array.mem_iff_getElem.mp hv;obtain⟨y,hy,q⟩:=r1.get (i:=m) (v:=.int (us[m]'(by exact uI hm z1))) (by simp);simp at hy;obtain⟨_,rfl⟩:=Array.getElem?_eq_some_iff.mp hy;generalize i1[m]=y at q;cases q;exact⟨_,_,rfl⟩
  obtain⟨xs,rfl⟩:=hall.items;refine sum_intListG hA.hand l1 fun h' tk t' hk=>?_
  exact k _ σ _ _ B (q _) (bh.refl _) (I.keeps (t:=tk) (d:=s.drawn) hk) (.int _ _)
theorem x6 {l:V} {vs:List V} {j:Int} (hl:aM σ l (.lst vs)) (h0:0≤j) (hz:vs.length*j.toNat≤100000) (hj:j<2 ^ 60) (q:∀a,Q (.loc a) ((a,.lst (List.replicate j.toNat vs).flatten)::σ)):T2 n (binaryOp .Mult) l (.int j) σ Q:=fun A B P s x y R hA I hx hy k=>by
 obtain⟨a1,o1,rfl,e1,c1⟩:=I.view hl hx;obtain⟨i1,m1,rfl,l1,r1⟩:=c1.isList e1;have z1:=r1.length
 simp at z1;cases hy with
 | int _ t=>
 refine wpAny_binaryOp_repeat_ref (T:="list") (U:="int") (by decide) ⟨_,e1,rfl⟩ (fun s'=>typeIs_int s' j t) noFill_list_mul F.fills_int_mul F.slot_int_rmul repeat_list F.slot_int_index.lookup
  (call_meets F.slot_int_rmul (typeIs_int s j t) F.entry_int_rmul (F.args_int_rmul_2 _ _) (int___rmul___int_list j t a1 i1 m1)
   ⟨e1,rfl,⟨_,e1,rfl⟩,call_meets F.slot_list_mul ⟨_,e1,rfl⟩ F.entry_list_mul (F.args_list_mul_2 _ _)
    (AutoListH.list___mul___list_int_3 a1 i1 m1 j t (by simp[Builtin.List.listFitsIndex];exact Kh h0 hj) (by erw[←z1];omega) (by simp[Builtin.List.listTooLong,sizeLine];erw[←z1];omega))
    ⟨e1,?_⟩⟩)
 erw[listMul_foldl_if];refine k _ _ _ _ B (q _) (bh.refl _) (I.push_sto (c:=.lst (List.replicate j.toNat vs).flatten) rfl ⟨_,_,rfl,?_⟩) (.loc _);show cf B _ (List.replicate j.toNat i1.toList).flatten
 generalize j.toNat=jj;induction jj with
 | zero=>exact .nil
 | succ jj ih=>erw[List.replicate_succ,List.replicate_succ,List.flatten_cons,List.flatten_cons];exact r1.append ih
theorem qe {prog:Program} {w:World} {A:Around} {E:Value→Shared→Prop} {it t:Addr} {items:Array Value} (hne:t≠it):∀(n i:Nat) (s:Shared) (Q:List Value→Shared→Prop),s.heap.IsListIter it t i→s.heap.IsList t items→i+n≤items.size→
 (∀h',h'.IsListIter it t (i+n)→Heap.SameBut it s.heap h'→Q ((items.toList.drop i).take n) { s with heap:=h' })→wpAny (model prog w) A (draw (.ref it) n) Q E s
 | 0,i,s,Q,hit,_,_,hQ=>by
  show wpAny _ _ (pure []) Q E s
  exact wpAny_pure (by simpa using hQ s.heap hit (Heap.SameBut.refl ..))
 | n+1,i,s,Q,hit,ht,hle,hQ=>by
  have hlt:i<items.size:=by exact tB hle
  show wpAny _ _ (pyNext (.ref it) >>= _) Q E s
  refine wpAny_bind (wpAny_pyNext_list_item hit ht (x:=items[i]) (by simp[hlt]) fun h₁ hit₁ hs₁=>?_);refine wpAny_bind (wpAny_holding (qe hne n (i+1) _ _ hit₁ (ht.extBut hs₁.extBut hne) (by exact zl hle) fun h₂ hit₂ hs₂=>wpAny_pure ?_));have hd:items.toList.drop i=items[i]::items.toList.drop (i+1):=by simp[List.drop_eq_getElem_cons,hlt]
  have:=hQ h₂ (by erw[show i+(n+1)=i+1+n by exact tA];exact hit₂) (hs₁.trans hs₂)
  rw[hd,List.take_succ_cons] at this;exact this
theorem rB {prog:Program} {w:World} {A:Around} {E:Value→Shared→Prop} {s:Shared} {t:Addr} {items:Array Value} {targets:List (Bool×(Value→Sem Unit))} {Q:Unit→Shared→Prop} (hh:A.handled=none) (ht:s.heap.IsList t items)
 (hn:targets.length=items.size) (hstar:targets.findIdx? (fun U=>U.1)=none)
 (h:∀h',Heap.ExtBut s.heap.objs.size s.heap h'→wpAny (model prog w) A (assignInOrder (targets.map (fun U=>U.2)) items.toList) Q E { s with heap:=h' }):
 wpAny (model prog w) A (unpack (.ref t) targets) Q E s:=by
 delta prog w A E s t items targets Q hh ht hn hstar h at ⊢
 have hlt:t≠s.heap.objs.size:=by obtain⟨o,ho,_⟩:=ht;exact Nat.ne_of_lt (Heap.lt_size ho)
 unfold unpack
 erw[hn,hstar]
 refine wpAny_bind (wpAny_holding ?_)
 unfold unpackItems
 refine wpAny_bind ?_
 unfold notIterableAtAll
 refine wpAny_bind (wpAny_specialOf ht.typeIs slot_list_iter.lookup ?_)
 refine wpAny_pure ?_
 simp only[Bool.false_eq_true,if_false]
 refine wpAny_bind (wpAny_holding (wpAny_pyIter_list ht ?_))
 refine wpAny_bind (wpAny_holding (qe hlt items.size 0 _ _ ⟨_,Heap.get?_push_size _ rfl,rfl,rfl⟩ (ht.push _) (by exact Kg) fun h₁ hit₁ hs₁=>?_))
 have hall:List.take items.size (List.drop 0 items.toList)=items.toList:=by
  erw[List.drop_zero];exact List.take_of_length_le (by simp)
 erw[hall]
 erw[if_neg (by simp)]
 have ht₁:h₁.IsList t items:=(ht.push _).extBut hs₁.extBut hlt
 refine wpAny_bind (wpAny_holding (wpAny_pyNext_list_end hh hit₁ ht₁ (by simp) fun h₂ he₂=>?_))
 simp only[Option.isSome_none,Bool.false_eq_true,if_false]
 exact wpAny_pure (h h₂ fun b o hb e=>he₂ b o hb (hs₁.extBut b o hb (Heap.get?_push_of_some _ e)))
theorem vG {es:List Expr} {k:Nat} {pos:Pos} {v:V} {vs:List V} {Q:aI→aj→Prop} (hv:aM σ v (.lst vs)) (h:BH n es vs η σ Q) (hl:autoParam (es.length=vs.length) tR)
 (he:autoParam (∀env,(assignEach es env).map (fun U=>U.2)=es.map fun t=>assign t env) tI) (hn:autoParam (∀env,(assignEach es env).length=es.length) tI) (hst:autoParam (∀env,(assignEach es env).findIdx? (fun U=>U.1)=none) tI):
 TA n (.Tuple es k pos) v η σ Q:=fun A B P env s x R hA I hx kk=>by
 obtain⟨P',I0⟩:=I.inv0
 obtain⟨a1,o1,rfl,e1,c1⟩:=I0.view hv hx
 obtain⟨i1,m1,rfl,l1,r1⟩:=c1.isList e1
 erw[arm_assign_Tuple]
 refine wpAny_bind (wpAny_standAt (rB hA.hand l1 (by erw[hn,hl];simpa using r1.length) (hst env) fun h' he'=>?_))
 erw[he]
 exact h.run he A B P env _ _ R hA (I.keeps (t:=s.toks) (d:=s.drawn) fun b o eb=>he' b o (Nat.ne_of_lt (Heap.lt_size eb)) eb) r1 kk
end
def vc:Bool→Keyed→Array Keyed→Nat→Nat→Nat→StateT SortSt Sem (Option Nat):=sortPriv% PySem.Builtin.gallop
section
variable {prog:Program} {w:World} {A:Around} {E:Value→Shared→Prop} {s:Shared}
def IK (xs:Array Keyed):Prop:=∀p∈xs,∃n t,p.1=.int n t
structure SP (a₀:Array Keyed) (st:SortSt):Prop where
 perm:(arrOf st).Perm a₀
 kind:kindOf st=oneType'
 failed:failedOf st=none
theorem aE {arr:Array Keyed} {i:Nat} {st:SortSt} {Q:Keyed→SortSt→Prop} (hi:i<arr.size) (h:Q arr[i] st):wpS (model prog w) A E s (elem' arr i) Q st:=by
 erw[elem'_eq,getElem?_pos arr i hi];exact wpS_pure h
theorem mB {x y:Keyed} {st:SortSt} {Q:Option Bool→SortSt→Prop} (hk:kindOf st=oneType') (hx:∃n t,x.1=.int n t) (hy:∃n t,y.1=.int n t) (h:∀b,Q (some b) st):wpS (model prog w) A E s (lt' x y) Q st:=by
 obtain⟨n,t,hx⟩:=hx;obtain⟨m,u,hy⟩:=hy;erw[lt'_eq];refine wpS_bind (wpS_get ?_);erw[hk,keyLt'_oneType,hx,hy];refine wpS_bind (wpS_lift (wpAny_attempt (oneLt_int ⟨rfl,?_⟩)));exact wpS_pure (h _)
theorem IK.at {xs:Array Keyed} (h:IK xs) {i:Nat} (hi:i<xs.size):∃n t,xs[i].1=.int n t:=h _ (Array.getElem_mem hi)
theorem ck {left:Bool} {key:Keyed} {arr:Array Keyed} {base n hint:Nat} {st:SortSt} {Q:Option Nat→SortSt→Prop} (hk:kindOf st=oneType') (hx:∃n t,key.1=.int n t) (ha:IK arr) (hn:base+n≤arr.size) (hh:hint<n)
 (h:∀k,k≤n→Q (some k) st):wpS (model prog w) A E s (vc left key arr base n hint) Q st:=by
 delta prog w A E s left key arr base n hint st Q hk hx ha hn hh h at ⊢
 unfold vc
 have hb:∀(i:Nat) (Q:Option Bool→SortSt→Prop),i<n→(∀b,Q (some b) st)→wpS (model prog w) A E s (elem' arr (base+i) >>= fun x=>if left=true then lt' x key else(lt' key x >>= fun r=>pure (Option.map (fun x=>!x) r))) Q st:=fun i Q hi hQ=>by
  refine wpS_bind (aE (by exact wC hn hi) ?_)
  split
  ·exact mB hk (ha.at _) hx hQ
  ·exact wpS_bind (mB hk hx (ha.at _) fun b=>wpS_pure (hQ _))
 refine wpS_bind (hb hint _ hh fun right=>?_)
 dsimp only
 have last:∀(lo hi:Nat),hi≤n→∀(f:Nat→Option (Option Nat)×Nat×Nat→StateT SortSt Sem (ForInStep (Option (Option Nat)×Nat×Nat))),
  (∀x lo hi,hi≤n→wpS (model prog w) A E s (f x (none,lo,hi)) (fun r st'=>match r with|.done c'=>(∃lo hi,c'=(none,lo,hi)∧hi≤n∧st'=st)|.yield c'=>(∃lo hi,c'=(none,lo,hi)∧hi≤n∧st'=st)) st)→
  wpS (model prog w) A E s (forIn [0:n] (none,lo,hi) f) (fun c st'=>∃lo hi,c=(none,lo,hi)∧hi≤n∧st'=st) st:=fun lo hi hle f hf=>by
  refine wpS_forRange (I:=fun U c st'=>∃lo hi,c=(none,lo,hi)∧hi≤n∧st'=st) ?_ (fun c st' h=>h) ⟨lo,hi,rfl,hle,rfl⟩
  rintro i c st' _ _ ⟨lo,hi,rfl,hle,rfl⟩
  exact wpS_mono (hf i lo hi hle) fun r st' h=>by cases r<;>exact h
 cases right with
 | true=>
  simp only[if_true]
  refine wpS_bind (wpS_mono (wpS_forRange (I:=fun U c st'=>∃lastofs ofs,c=(none,lastofs,ofs)∧lastofs<n-hint∧st'=st) (Q:=fun c st'=>∃lastofs ofs,c=(none,lastofs,ofs)∧lastofs<n-hint∧st'=st) ?_ (fun c st' h=>h) ⟨0,1,rfl,A7 hh,rfl⟩) ?_)
  ·rintro i c st' _ _ ⟨lastofs,ofs,rfl,hlt,rfl⟩
   dsimp only
   split
   ·exact wpS_pure ⟨_,_,rfl,hlt,rfl⟩
   ·refine wpS_bind (hb _ _ (by exact A8 (by assumption)) fun more=>?_)
    dsimp only
    split
    ·exact wpS_pure ⟨_,_,rfl,hlt,rfl⟩
    ·exact wpS_pure ⟨_,_,rfl,by exact Kf (by assumption),rfl⟩
  ·rintro c st' ⟨lastofs,ofs,rfl,hlt,rfl⟩
   dsimp only
   refine wpS_bind (wpS_mono (last _ _ (by exact A9 hlt) _ fun x lo hi hle=>?_) ?_)
   ·dsimp only
    split
    ·exact wpS_pure ⟨_,_,rfl,hle,rfl⟩
    ·refine wpS_bind (hb _ _ (B1 hle (by assumption)) fun more=>?_)
     dsimp only
     split
     ·exact wpS_pure ⟨_,_,rfl,hle,rfl⟩
     ·exact wpS_pure ⟨_,_,rfl,B2 hle (by assumption),rfl⟩
   ·rintro c st' ⟨lo,hi,rfl,hle,rfl⟩
    dsimp only
    exact wpS_pure (h _ hle)
 | false=>
  simp only[Bool.false_eq_true,if_false]
  refine wpS_bind (wpS_mono (wpS_forRange (I:=fun U c st'=>∃lastofs ofs,c=(none,lastofs,ofs)∧st'=st) (Q:=fun c st'=>∃lastofs ofs,c=(none,lastofs,ofs)∧st'=st) ?_ (fun c st' h=>h) ⟨0,1,rfl,rfl⟩) ?_)
  ·rintro i c st' _ _ ⟨lastofs,ofs,rfl,rfl⟩
   dsimp only
   split
   ·exact wpS_pure ⟨_,_,rfl,rfl⟩
   ·refine wpS_bind (hb _ _ (by exact M5 hh) fun more=>?_)
    dsimp only
    split
    ·exact wpS_pure ⟨_,_,rfl,rfl⟩
    ·exact wpS_pure ⟨_,_,rfl,rfl⟩
  ·rintro c st' ⟨lastofs,ofs,rfl,rfl⟩
   dsimp only
   refine wpS_bind (wpS_mono (last _ _ (by exact M4 hh) _ fun x lo hi hle=>?_) ?_)
   ·dsimp only
    split
    ·exact wpS_pure ⟨_,_,rfl,hle,rfl⟩
    ·refine wpS_bind (hb _ _ (B1 hle (by assumption)) fun more=>?_)
     dsimp only
     split
     ·exact wpS_pure ⟨_,_,rfl,hle,rfl⟩
     ·exact wpS_pure ⟨_,_,rfl,B2 hle (by assumption),rfl⟩
   ·rintro c st' ⟨lo,hi,rfl,hle,rfl⟩
    dsimp only
    exact wpS_pure (h _ hle)
end
def so:Array Keyed→Array Keyed→StateT SortSt Sem (Array Keyed):=sortPriv% PySem.Builtin.mergeLo
section
variable {prog:Program} {w:World} {A:Around} {E:Value→Shared→Prop} {s:Shared} {σ:Type}
theorem ad {α:Type} {c:Prop} [Decidable c] {m₁ m₂:StateT σ Sem α} {Q:α→σ→Prop} {st:σ} {M:Model} (h₁:c→wpS M A E s m₁ Q st) (h₂:¬c→wpS M A E s m₂ Q st):wpS M A E s (if c then m₁ else m₂) Q st:=by
 split
 ·exact h₁ ‹_›
 ·exact h₂ ‹_›
structure SG (st st':SortSt):Prop where
 arr:arrOf st'=arrOf st
 kind:kindOf st'=kindOf st
 pend:pendingOf st'=pendingOf st
 failed:failedOf st'=failedOf st
theorem SG.refl (st:SortSt):SG st st:=⟨rfl,rfl,rfl,rfl⟩
theorem SG.trans {a b c:SortSt} (h:SG a b) (h':SG b c):SG a c:=⟨h'.arr.trans h.arr,h'.kind.trans h.kind,h'.pend.trans h.pend,h'.failed.trans h.failed⟩
theorem SG.set (st:SortSt) (g:Nat):SG st (SortSt.mk' (kindOf st) (arrOf st) (pendingOf st) g (failedOf st)):=⟨rfl,rfl,rfl,rfl⟩
theorem fh {α:Type} {p x₁ x₂ y₁ y₂:List α} (h:p.Perm (x₁++y₁)):(p++x₂++y₂).Perm ((x₁++x₂)++(y₁++y₂)):=by
 have e1:(p++x₂++y₂).Perm ((x₁++y₁)++x₂++y₂):=(h.append_right _).append_right _
 refine e1.trans ?_
 have e2:((x₁++y₁)++x₂).Perm ((x₁++x₂)++y₁):=by
  erw[List.append_assoc,List.append_assoc];exact List.perm_append_comm.append_left x₁
 simpa [List.append_assoc]using e2.append_right y₂
theorem w6 {α:Type} {p x₁ x₂ y₁ y₂:List α} (h:p.Perm (x₁++y₁)):(p++y₂++x₂).Perm ((x₁++x₂)++(y₁++y₂)):=by
 refine List.Perm.trans ?_ (fh h);erw[List.append_assoc,List.append_assoc];exact List.perm_append_comm.append_left p
def D6:Nat→StateT SortSt Sem Unit:=sortPriv% PySem.Builtin.setMinGallop
theorem iE {st:SortSt} {g:Nat} {Q:Unit→SortSt→Prop} {M:Model} (h:∀st',SG st st'→Q () st'):wpS M A E s (D6 g) Q st:=wpS_modify (h _ (SG.set st g))
structure CS (a b out:Array Keyed) (ia ib:Nat):Prop where
 hia:ia+1<a.size
 hib:ib<b.size
 perm:out.toList.Perm (a.toList.take ia++b.toList.take ib)
theorem ve (a:Array Keyed) (i:Nat):(a.extract i a.size).toList=a.toList.drop i:=by
 simp only[Array.toList_extract,List.extract_eq_take_drop];exact List.take_of_length_le (by simp)
section
variable {a b out:Array Keyed} {ia ib:Nat}
theorem kM (h:out.toList.Perm (a.toList.take ia++b.toList.take ib)):(out++a.extract ia a.size++b.extract ib b.size).toList.Perm (a.toList++b.toList):=by
 have:=fh (x₂:=a.toList.drop ia) (y₂:=b.toList.drop ib) h
 simp only[Array.toList_append,ve];simpa only[List.take_append_drop]using this
theorem mt (h:out.toList.Perm (a.toList.take ia++b.toList.take ib)):(out++b.extract ib b.size++a.extract ia a.size).toList.Perm (a.toList++b.toList):=by
 have:=w6 (x₂:=a.toList.drop ia) (y₂:=b.toList.drop ib) h
 simp only[Array.toList_append,ve];simpa only[List.take_append_drop]using this
theorem sw (h:out.toList.Perm (a.toList.take ia++b.toList.take ib)) (hb:ib<b.size):(out.push b[ib]).toList.Perm (a.toList.take ia++b.toList.take (ib+1)):=by
 have:=h.append_right [b[ib]]
 erw[List.take_add_one,List.getElem?_eq_getElem (by simpa using hb)];simpa [List.append_assoc]using this
theorem sx (h:out.toList.Perm (a.toList.take ia++b.toList.take ib)) (hb:ia<a.size):(out.push a[ia]).toList.Perm (a.toList.take (ia+1)++b.toList.take ib):=by
 have:=fh (x₂:=[a[ia]]) (y₂:=[]) h
 erw[List.take_add_one,List.getElem?_eq_getElem (by simpa using hb)];simpa [List.append_assoc]using this
theorem i4 {l:List Keyed} {i k:Nat}:l.take i++(l.drop i).take k=l.take (i+k):=by
 erw[List.take_add]
theorem zw (k:Nat) (h:out.toList.Perm (a.toList.take ia++b.toList.take ib)):(out++a.extract ia (ia+k)).toList.Perm (a.toList.take (ia+k)++b.toList.take ib):=by
 have:=fh (x₂:=(a.toList.drop ia).take k) (y₂:=[]) h
 rw[i4]at this;simpa [List.append_assoc,List.extract_eq_take_drop]using this
theorem zv (k:Nat) (h:out.toList.Perm (a.toList.take ia++b.toList.take ib)):(out++b.extract ib (ib+k)).toList.Perm (a.toList.take ia++b.toList.take (ib+k)):=by
 have:=fh (x₂:=[]) (y₂:=(b.toList.drop ib).take k) h
 rw[i4]at this;simpa [List.append_assoc,List.extract_eq_take_drop]using this
end
theorem gz {M:Model} {β:Type} {a b:Nat} {f:Nat→β→StateT σ Sem (ForInStep β)} (I:Nat→β→σ→Prop) {Q:β→σ→Prop}
 (hstep:∀i c st (K:ForInStep β→σ→Prop),i<b→I i c st→(∀c' st',Q c' st'→K (.done c') st')→(∀c' st',I (i+1) c' st'→K (.yield c') st')→wpS M A E s (f i c) K st)
 (hend:∀c st,I (max a b) c st→Q c st) {c:β} {st:σ} (h:I a c st):wpS M A E s (forIn [a:b] c f) Q st:=
 wpS_forRange I (fun i c st U h2 h3=>hstep i c st (fun r st'=>match r with|.done c'=>Q c' st'|.yield c'=>I (i+1) c' st') h2 h3 (fun U U h=>h) (fun U U h=>h)) hend h
theorem rv {a b:Array Keyed} {st:SortSt} {Q:Array Keyed→SortSt→Prop} (hk:kindOf st=oneType') (ha:IK a) (hb:IK b) (h1:1≤a.size) (h2:1≤b.size)
 (hQ:∀out st',out.toList.Perm (a.toList++b.toList)→SG st st'→Q out st'):wpS (model prog w) A E s (so a b) Q st:=by
 delta prog w A E s a b st Q hk ha hb h1 h2 hQ at ⊢;unfold so;refine wpS_bind (wpS_lift (wpAny_rule ⟨rfl,?_⟩));refine wpS_bind (aE h2 ?_)
 have p0:(#[b[0]]:Array Keyed).toList.Perm (a.toList.take 0++b.toList.take 1):=by
  erw[List.take_add_one,List.getElem?_eq_getElem (by simpa using(show 0<b.size by exact Du h2))];simp
 refine ad (fun hx=>wpS_pure (hQ _ _ (kM p0) (SG.refl _))) fun hx1=>?_
 refine ad (fun hx=>wpS_pure (hQ _ _ (mt p0) (SG.refl _))) fun hx2=>?_
 rw[beq_iff_eq] at hx1 hx2;refine wpS_bind (wpS_get ?_)
 refine wpS_bind (wpS_mono (gz (I:=fun i c st'=>∃out ia ib mg,c=(none,out,ia,ib,mg)∧CS a b out ia ib∧i≤ia+ib∧SG st st')
  (Q:=fun c st'=>∃fin r,c=(some fin,r)∧fin.toList.Perm (a.toList++b.toList)∧SG st st') ?step ?fin ⟨_,_,_,_,rfl,⟨by exact E5 h1 hx2,by exact E4 h2 hx1,p0⟩,by omega,SG.refl _⟩) ?post)
 case post=>
  rintro c st' ⟨fin,r,rfl,hp,hg⟩;exact wpS_pure (hQ _ _ hp hg)
 case fin=>
  rintro c st' ⟨out,ia,ib,mg,rfl,⟨q1,q2,_⟩,q3,_⟩;exfalso;have:max 0 (a.size+b.size)=a.size+b.size:=by exact Dt
  exact E3 q1 q2 this q3
 case step=>
  rintro i c st1 K hi ⟨out,ia,ib,mg,rfl,L,hsum,hg⟩ kd ky;delta i st1 K out ia ib mg at hi L hsum hg kd ky
  refine wpS_bind (wpS_mono (gz (I:=fun j c st'=>∃out ia ib ac bc,c=(none,out,ia,ib,ac,bc)∧CS a b out ia ib∧i+min j 1≤ia+ib∧SG st st')
   (Q:=fun c st'=>SG st st'∧((∃fin r,c=(some fin,r)∧fin.toList.Perm (a.toList++b.toList))∨∃out ia ib ac bc,c=(none,out,ia,ib,ac,bc)∧CS a b out ia ib∧i+1≤ia+ib)) ?cV ?fin1 ⟨out,ia,ib,_,_,rfl,L,by exact Ke hsum,hg⟩) ?post1)
  case fin1=>
   rintro c st' ⟨out,ia,ib,ac,bc,rfl,L,q3,hg⟩;exact⟨hg,.inr ⟨out,ia,ib,_,_,rfl,L,by have:=L.hia;have:=L.hib;exact E2 h1 h2 q3 hx2 hx1⟩⟩
  case cV=>
   rintro j c st1 K hj ⟨out,ia,ib,ac,bc,rfl,L,hsum,hg⟩ kd ky;delta j st1 K out ia ib ac bc at hj L hsum hg kd ky;have l1:=L.hia
   have l2:=L.hib
   have l3:ia<a.size:=by exact DG l1
   refine wpS_bind (aE l2 (wpS_bind (aE l3 (wpS_bind (mB (hg.kind.trans hk) (hb.at l2) (ha.at l3) fun bWins=>?_)))));refine ad (fun U=>?_) (fun U=>?_)
   ·refine wpS_bind (aE l2 ?_);have p:=sw L.perm l2
    refine ad (fun he=>wpS_pure (kd _ _ ⟨hg,.inl ⟨_,_,rfl,kM p⟩⟩)) (fun he=>?_);replace he:ib+1≠b.size:=fun q=>he (beq_iff_eq.mpr q)
    exact ad (fun U=>wpS_pure (kd _ _ ⟨hg,.inr ⟨_,ia,ib+1,_,_,rfl,⟨l1,by exact Ds he l2,p⟩,by exact Kd hsum⟩⟩)) (fun U=>wpS_pure (ky _ _ ⟨_,ia,ib+1,_,_,rfl,⟨l1,by exact Ds he l2,p⟩,by exact Kc hsum,hg⟩))
   ·refine wpS_bind (aE l3 ?_);have p:=sx (a:=a) L.perm l3
    refine ad (fun he=>wpS_pure (kd _ _ ⟨hg,.inl ⟨_,_,rfl,mt p⟩⟩)) (fun he=>?_);replace he:ia+1+1≠a.size:=fun q=>he (beq_iff_eq.mpr q)
    exact ad (fun U=>wpS_pure (kd _ _ ⟨hg,.inr ⟨_,ia+1,ib,_,_,rfl,⟨by exact Dr he l1,l2,p⟩,by exact Kb hsum⟩⟩)) (fun U=>wpS_pure (ky _ _ ⟨_,ia+1,ib,_,_,rfl,⟨by exact Dr he l1,l2,p⟩,by exact Ka hsum,hg⟩))
  case post1=>
   rintro c st1 ⟨hg,⟨fin,r,rfl,hp⟩|⟨out,ia,ib,ac,bc,rfl,L,hsum⟩⟩
   ·exact wpS_pure (kd _ _ ⟨_,_,rfl,hp,hg⟩)
   refine wpS_bind (wpS_lift (wpAny_rule ⟨rfl,?_⟩))
   refine wpS_bind (wpS_mono (gz (I:=fun j c st'=>∃out ia ib mg ac bc,c=(none,out,ia,ib,mg,ac,bc)∧CS a b out ia ib∧i+1≤ia+ib∧SG st st')
    (Q:=fun c st'=>SG st st'∧((∃fin r,c=(some fin,r)∧fin.toList.Perm (a.toList++b.toList))∨∃out ia ib mg ac bc,c=(none,out,ia,ib,mg,ac,bc)∧CS a b out ia ib∧i+1≤ia+ib)) ?step2 ?fin2 ⟨out,ia,ib,_,_,_,rfl,L,hsum,hg⟩) ?post2)
   case fin2=>
    rintro c st' ⟨out,ia,ib,mg,ac,bc,rfl,L,q3,hg⟩;exact⟨hg,.inr ⟨out,ia,ib,_,_,_,rfl,L,q3⟩⟩
   case post2=>
    rintro c st1 ⟨hg,⟨fin,r,rfl,hp⟩|⟨out,ia,ib,mg,ac,bc,rfl,L,hsum⟩⟩
    ·exact wpS_pure (kd _ _ ⟨_,_,rfl,hp,hg⟩)
    ·exact wpS_bind (iE fun st2 hg2=>wpS_pure (ky _ _ ⟨out,ia,ib,_,rfl,L,hsum,hg.trans hg2⟩))
   case step2=>
    rintro j c st1 K2 hj ⟨out,ia,ib,mg,ac,bc,rfl,L,hsum,hg⟩ kd ky;have l1:=L.hia
    have l2:=L.hib
    dsimp(zeta:=false) only;extract_lets s1 o1 s2 i1 s3 i2 s4 m1 s5 a1 b1 ib1 jp
    suffices hjp:∀mg,wpS (model prog w) A E s (jp () mg) K2 st1 by
     clear_value jp;exact ad (fun U=>hjp _) (fun U=>hjp _)
    intro mg;refine wpS_bind (iE fun st2 hg2=>?_);replace hg:=hg.trans hg2;refine wpS_bind (aE l2 (wpS_bind (ck (base:=ia) (n:=a.size-ia) (hg.kind.trans hk) (hb.at l2) ha (by exact K9 l1) (by exact K8 l1) fun k hk1=>?_)));dsimp(zeta:=false) only;extract_lets ac1 jp2
    suffices hg':∀out ia,CS a b out ia ib→i+1≤ia+ib→wpS (model prog w) A E s (jp2 () out ia) K2 st2 by
     clear_value jp2;refine ad (fun hk0=>?_) (fun hk0=>hg' _ _ L hsum);have p:=zw k L.perm
     refine ad (fun he=>wpS_pure (kd _ _ ⟨hg,.inl ⟨_,_,rfl,mt p⟩⟩)) (fun he=>?_);replace he:ia+k+1≠a.size:=fun q=>he (beq_iff_eq.mpr q)
     refine ad (fun he=>wpS_pure (kd _ _ ⟨hg,.inl ⟨_,_,rfl,kM p⟩⟩)) (fun he2=>?_);replace he2:ia+k≠a.size:=fun q=>he2 (beq_iff_eq.mpr q)
     exact hg' _ _ ⟨by exact M3 hk1 hk0 he he2,l2,p⟩ (by exact M2 hsum)
    clear L hsum l1 l2 hk1;intro out ia L hsum;have l1:=L.hia
    have l2:=L.hib
    have p':=sw L.perm l2
    refine wpS_bind (aE l2 ?_);refine ad (fun he=>wpS_pure (kd _ _ ⟨hg,.inl ⟨_,_,rfl,kM p'⟩⟩)) (fun he=>?_);replace he:ib+1≠b.size:=fun q=>he (beq_iff_eq.mpr q)
    refine wpS_bind (aE (Nat.lt_of_succ_lt l1) (wpS_bind (ck (base:=ib+1) (n:=b.size-(ib+1)) (hg.kind.trans hk) (ha.at _) hb (by exact K7 he l2) (by exact K6 he l2) fun k2 hk2=>?_)));dsimp(zeta:=false) only;extract_lets bc1 ia1 jp3
    suffices hg':∀out ib',ib'<b.size→ib+1≤ib'→out.toList.Perm (a.toList.take ia++b.toList.take ib')→wpS (model prog w) A E s (jp3 () out ib') K2 st2 by
     clear_value jp3;refine ad (fun hk0=>?_) (fun hk0=>hg' _ _ (by exact M1 l2 he) (Nat.le_refl _) p');have p2:=zv k2 p'
     refine ad (fun he=>wpS_pure (kd _ _ ⟨hg,.inl ⟨_,_,rfl,kM p2⟩⟩)) (fun he3=>?_);replace he3:ib+1+k2≠b.size:=fun q=>he3 (beq_iff_eq.mpr q)
     exact hg' _ _ (by exact M0 hk2 hk0 he3) (by omega) p2
    intro out ib' hb2 hge p2;have p3:=sx p2 (Nat.lt_of_succ_lt l1)
    refine wpS_bind (aE (Nat.lt_of_succ_lt l1) ?_);refine ad (fun he=>wpS_pure (kd _ _ ⟨hg,.inl ⟨_,_,rfl,mt p3⟩⟩)) (fun he4=>?_);have he5:_≠a.size:=fun q=>he4 (beq_iff_eq.mpr q)
    exact ad (fun U=>wpS_pure (kd _ _ ⟨hg,.inr ⟨_,ia+1,ib',_,_,_,rfl,⟨Nat.lt_of_le_of_ne l1 he5,hb2,p3⟩,by exact Dq hsum hge⟩⟩)) (fun U=>wpS_pure (ky _ _ ⟨_,ia+1,ib',_,_,_,rfl,⟨Nat.lt_of_le_of_ne l1 he5,hb2,p3⟩,by exact Dq hsum hge,hg⟩))
end
def sq:Array Keyed→Array Keyed→StateT SortSt Sem (Array Keyed):=sortPriv% PySem.Builtin.mergeHi
section
variable {prog:Program} {w:World} {A:Around} {E:Value→Shared→Prop} {s:Shared} {σ:Type}
structure KT (a b out:Array Keyed) (na nb:Nat):Prop where
 h1:1≤na
 h2:2≤nb
 ha:na≤a.size
 hb:nb≤b.size
 perm:out.toList.Perm (a.toList.drop na++b.toList.drop nb)
section
variable {a b out:Array Keyed} {na nb:Nat}
theorem ya (a:Array Keyed) (i:Nat):(a.extract 0 i).toList=a.toList.take i:=by
 simp only[Array.toList_extract,List.extract_eq_take_drop,List.drop_zero,Nat.sub_zero]
theorem cj (h:out.toList.Perm (a.toList.drop na++b.toList.drop nb)):(a.extract 0 na++b.extract 0 nb++out.reverse).toList.Perm (a.toList++b.toList):=by
 have h':(a.toList.take na++b.toList.take nb++out.toList.reverse).Perm (out.toList++a.toList.take na++b.toList.take nb):=by
  erw[List.append_assoc out.toList];exact(List.perm_append_comm).trans ((List.reverse_perm _).append_right _)
 have e:=fh (x₂:=a.toList.take na) (y₂:=b.toList.take nb) h
 simp only[Array.toList_append,ya,Array.toList_reverse];refine h'.trans (e.trans ?_);have e1:(a.toList.drop na++a.toList.take na).Perm a.toList:=List.perm_append_comm.trans (by erw[List.take_append_drop])
 have e2:(b.toList.drop nb++b.toList.take nb).Perm b.toList:=List.perm_append_comm.trans (by erw[List.take_append_drop])
 exact e1.append e2
theorem dL (h:out.toList.Perm (a.toList.drop na++b.toList.drop nb)):(b.extract 0 nb++a.extract 0 na++out.reverse).toList.Perm (a.toList++b.toList):=by
 refine List.Perm.trans ?_ (cj h);simp only[Array.toList_append];exact List.perm_append_comm.append_right _
theorem lH {l:List Keyed} {n:Nat} (h:1≤n) (h':n≤l.length):l.drop (n-1)=l[n-1]'(by exact zk h h')::l.drop n:=by
 erw[List.drop_eq_getElem_cons (by exact zk h h')];congr 2;exact K5 h
theorem eI (h:out.toList.Perm (a.toList.drop na++b.toList.drop nb)) (h1:1≤na) (h2:na-1<a.size) (h3:na≤a.size):(out.push a[na-1]).toList.Perm (a.toList.drop (na-1)++b.toList.drop nb):=by
 erw[lH h1 (by simpa using h3)];simp only[Array.toList_push,List.cons_append,Array.getElem_toList];exact(List.perm_append_comm (l₁:=out.toList)).trans (h.cons _)
theorem j4 (h:out.toList.Perm (a.toList.drop na++b.toList.drop nb)) (h1:1≤nb) (h2:nb-1<b.size) (h3:nb≤b.size):(out.push b[nb-1]).toList.Perm (a.toList.drop na++b.toList.drop (nb-1)):=by
 erw[lH h1 (by simpa using h3)];simp only[Array.toList_push,Array.getElem_toList];refine(List.perm_append_comm (l₁:=out.toList)).trans ((h.cons _).trans ?_);exact List.perm_middle.symm
theorem sK {l:List Keyed} {i n:Nat} (h:i≤n):(l.drop n++(l.extract i n).reverse).Perm (l.drop i):=by
 refine(List.perm_append_comm.trans ((List.reverse_perm _).append_right _)).trans ?_;erw[List.extract_eq_take_drop];have:l.drop n=(l.drop i).drop (n-i):=by erw[List.drop_drop];congr 1;exact Dp h
 erw[this,List.take_append_drop]
theorem uW {i:Nat} (h:out.toList.Perm (a.toList.drop na++b.toList.drop nb)) (hi:i≤na):(out++(a.extract i na).reverse).toList.Perm (a.toList.drop i++b.toList.drop nb):=by
 have e:=fh (x₂:=(a.toList.extract i na).reverse) (y₂:=[]) h
 simp only[Array.toList_append,Array.toList_reverse,Array.toList_extract];rw[List.append_nil,List.append_nil]at e;exact e.trans ((sK hi).append_right _)
theorem mw {i:Nat} (h:out.toList.Perm (a.toList.drop na++b.toList.drop nb)) (hi:i≤nb):(out++(b.extract i nb).reverse).toList.Perm (a.toList.drop na++b.toList.drop i):=by
 have e:=fh (x₂:=[]) (y₂:=(b.toList.extract i nb).reverse) h
 simp only[Array.toList_append,Array.toList_reverse,Array.toList_extract];rw[List.append_nil,List.append_nil]at e;exact e.trans ((sK hi).append_left _)
end
theorem rx {a b:Array Keyed} {st:SortSt} {Q:Array Keyed→SortSt→Prop} (hk:kindOf st=oneType') (ha:IK a) (hb:IK b) (h1:1≤a.size) (h2:1≤b.size)
 (hQ:∀out st',out.toList.Perm (a.toList++b.toList)→SG st st'→Q out st'):wpS (model prog w) A E s (sq a b) Q st:=by
 delta prog w A E s a b st Q hk ha hb h1 h2 hQ at ⊢;unfold sq;refine wpS_bind (wpS_lift (wpAny_rule ⟨rfl,?_⟩));have h3:a.size-1<a.size:=by exact zj h1
 refine wpS_bind (aE h3 ?_)
 have p0:(#[a[a.size-1]]:Array Keyed).toList.Perm (a.toList.drop (a.size-1)++b.toList.drop b.size):=by
  erw[lH h1 (by simp),List.drop_of_length_le (by simp),List.drop_of_length_le (by simp)];simp
 refine ad (fun hx=>wpS_pure (hQ _ _ (cj p0) (SG.refl _))) ?_;delta hx1;refine ad (fun hx=>wpS_pure (hQ _ _ (dL p0) (SG.refl _))) ?_;delta hx2;replace hx1:a.size-1≠0:=fun q=>hx1 (beq_iff_eq.mpr q)
 replace hx2:b.size≠1:=fun q=>hx2 (beq_iff_eq.mpr q)
 refine wpS_bind (wpS_get ?_)
 refine wpS_bind (wpS_mono (wpS_forRange (I:=fun i c st'=>∃out na nb mg,c=(none,na,nb,out,mg)∧KT a b out na nb∧na+nb+i<a.size+b.size∧SG st st')
  (Q:=fun c st'=>∃fin r,c=(some fin,r)∧fin.toList.Perm (a.toList++b.toList)∧SG st st') ?step ?fin ⟨_,a.size-1,b.size,_,rfl,⟨by exact qD hx1,by exact K4 h2 hx2,by omega,by omega,p0⟩,by exact K3 h3,SG.refl _⟩) ?post)
 case post=>
  delta c st';intro z94;injection z94 with fin r rfl hp hg;exact wpS_pure (hQ _ _ hp hg)
 case fin=>
  delta c st';intro z99;injection z99 with out na nb mg rfl _ q3 _;exfalso;have:max 0 (a.size+b.size)=a.size+b.size:=by exact Dt
  exact E1 q3 this
 case step=>
  delta i c st1;intro _;delta hi;intro z109;injection z109 with out na nb mg rfl L hsum hg
  refine wpS_bind (wpS_mono (wpS_forRange (I:=fun j c st'=>∃out na nb ac bc,c=(none,na,nb,out,ac,bc)∧KT a b out na nb∧na+nb+i+min j 1<a.size+b.size∧SG st st')
   (Q:=fun c st'=>SG st st'∧((∃fin r,c=(some fin,r)∧fin.toList.Perm (a.toList++b.toList))∨∃out na nb ac bc,c=(none,na,nb,out,ac,bc)∧KT a b out na nb∧na+nb+i+1<a.size+b.size)) ?cV ?fin1 ⟨out,na,nb,_,_,rfl,L,by exact K1 hsum,hg⟩) ?post1)
  case fin1=>
   delta c st';intro z117;injection z117 with out na nb ac bc rfl L q3 hg;exact⟨hg,.inr ⟨out,na,nb,_,_,rfl,L,by exact LW q3⟩⟩
  case cV=>
   delta j c st1;intro _;delta hj;intro z126;injection z126 with out na nb ac bc rfl L hsum hg;have l1:=L.h1
   have l2:=L.h2
   have l3:nb-1<b.size:=by have:=L.hb;exact Do l2 this
   have l4:na-1<a.size:=by have:=L.ha;exact zk l1 this
   have l5:=L.ha
   have l6:=L.hb
   refine wpS_bind (aE l3 (wpS_bind (aE l4 (wpS_bind (mB (hg.kind.trans hk) (hb.at l3) (ha.at l4) ?_)))));delta bWins;refine ad (fun U=>?_) (fun U=>?_)
   ·refine wpS_bind (aE l4 ?_);have p:=eI L.perm l1 l4 l5
    refine ad (fun he=>wpS_pure ⟨hg,.inl ⟨_,_,rfl,cj p⟩⟩) (?_);delta he;replace he:na-1≠0:=fun q=>he (beq_iff_eq.mpr q)
    exact ad (fun U=>wpS_pure ⟨hg,.inr ⟨_,na-1,nb,_,_,rfl,⟨by exact qD he,l2,by omega,l6,p⟩,by exact K0 l1 hsum⟩⟩) (fun U=>wpS_pure ⟨_,na-1,nb,_,_,rfl,⟨by exact qD he,l2,by omega,l6,p⟩,by exact JW l1 hsum,hg⟩)
   ·refine wpS_bind (aE l3 ?_);have p:=j4 L.perm (by exact xt l2) l3 l6
    refine ad (fun he=>wpS_pure ⟨hg,.inl ⟨_,_,rfl,dL p⟩⟩) (?_);delta he;replace he:nb-1≠1:=fun q=>he (beq_iff_eq.mpr q)
    exact ad (fun U=>wpS_pure ⟨hg,.inr ⟨_,na,nb-1,_,_,rfl,⟨l1,by exact Dn l2 he,l5,by omega,p⟩,by exact JV l2 hsum⟩⟩) (fun U=>wpS_pure ⟨_,na,nb-1,_,_,rfl,⟨l1,by exact Dn l2 he,l5,by omega,p⟩,by exact JU l2 hsum,hg⟩)
  case post1=>
   delta c st1;rintro⟨hg,⟨fin,r,rfl,hp⟩|⟨out,na,nb,ac,bc,rfl,L,hsum⟩⟩
   ·exact wpS_pure ⟨_,_,rfl,hp,hg⟩
   delta out na nb ac bc at L hsum;refine wpS_bind (wpS_lift (wpAny_rule ⟨rfl,?_⟩))
   refine wpS_bind (wpS_mono (wpS_forRange (I:=fun j c st'=>∃out na nb mg ac bc,c=(none,na,nb,out,mg,ac,bc)∧KT a b out na nb∧na+nb+i+1<a.size+b.size∧SG st st')
    (Q:=fun c st'=>SG st st'∧((∃fin r,c=(some fin,r)∧fin.toList.Perm (a.toList++b.toList))∨∃out na nb mg ac bc,c=(none,na,nb,out,mg,ac,bc)∧KT a b out na nb∧na+nb+i+1<a.size+b.size)) ?step2 ?fin2 ⟨out,na,nb,_,_,_,rfl,L,hsum,hg⟩) ?post2)
   case fin2=>
    delta c st';intro z135;injection z135 with out na nb mg ac bc rfl L q3 hg;exact⟨hg,.inr ⟨out,na,nb,_,_,_,rfl,L,q3⟩⟩
   case post2=>
    delta c st1;rintro⟨hg,⟨fin,r,rfl,hp⟩|⟨out,na,nb,mg,ac,bc,rfl,L,hsum⟩⟩
    ·exact wpS_pure ⟨_,_,rfl,hp,hg⟩
    ·exact wpS_bind (iE fun st2 hg2=>wpS_pure ⟨out,na,nb,_,rfl,L,by exact JT hsum,hg.trans hg2⟩)
   case step2=>
    delta j c st1;intro _;delta hj;intro z145;injection z145 with out na nb mg ac bc rfl L hsum hg;have l1:=L.h1
    have l2:=L.h2
    have l3:nb-1<b.size:=by have:=L.hb;exact Do l2 this
    have l4:na-1<a.size:=by have:=L.ha;exact zk l1 this
    have l5:=L.ha
    have l6:=L.hb
    refine ad (fun U=>?_) (fun U=>?_)
    ·refine wpS_bind (iE ?_);delta st2 hg2;replace hg:=hg.trans hg2;refine wpS_bind (aE l3 (wpS_bind (ck (base:=0) (n:=na) (hint:=na-1) (hg.kind.trans hk) (hb.at l3) ha (by exact Dm l5) (by exact zj l1) ?_)));delta k hk1;refine ad (fun hk0=>?_) (fun hk0=>?_)
     ·have p1:=uW L.perm hk1
      refine ad (fun he=>wpS_pure ⟨hg,.inl ⟨_,_,rfl,cj p1⟩⟩) (?_);delta he;replace he:k≠0:=fun q=>he (beq_iff_eq.mpr q)
      have m1:1≤k:=by exact Dl he
      have m5:k≤a.size:=by omega
      have m4:k-1<a.size:=by exact Dk h1 hk1 l5
      have p':=j4 p1 (by exact xt l2) l3 l6
      refine wpS_bind (aE l3 ?_);refine ad (fun he=>wpS_pure ⟨hg,.inl ⟨_,_,rfl,dL p'⟩⟩) (?_);delta he;replace he:nb-1≠1:=fun q=>he (beq_iff_eq.mpr q)
      refine wpS_bind (aE m4 (wpS_bind (ck (base:=0) (n:=nb-1) (hint:=nb-1-1) (hg.kind.trans hk) (ha.at _) hb (by exact zi l3) (by exact zh l2) ?_)));delta k2 hk2;refine ad (fun hk0=>?_) (fun hk0=>?_)
      ·have p2:=mw p' hk2
       refine ad (fun he=>wpS_pure ⟨hg,.inl ⟨_,_,rfl,dL p2⟩⟩) (?_);delta he3;replace he3:k2≠1:=fun q=>he3 (beq_iff_eq.mpr q)
       refine ad (fun he=>wpS_pure ⟨hg,.inl ⟨_,_,rfl,cj p2⟩⟩) (?_);delta he6;replace he6:k2≠0:=fun q=>he6 (beq_iff_eq.mpr q)
       have p3:=eI p2 m1 m4 m5
       refine wpS_bind (aE m4 ?_);refine ad (fun he=>wpS_pure ⟨hg,.inl ⟨_,_,rfl,cj p3⟩⟩) (?_);delta he4;replace he4:k-1≠0:=fun q=>he4 (beq_iff_eq.mpr q)
       exact ad (fun U=>wpS_pure ⟨hg,.inr ⟨_,k-1,k2,_,_,_,rfl,⟨by exact qD he4,by exact sf he6 he3,by omega,by exact se hk2 l3,p3⟩,by exact L5 hsum hk1 (by assumption) he4⟩⟩) (fun U=>wpS_pure ⟨_,k-1,k2,_,_,_,rfl,⟨by exact qD he4,by exact sf he6 he3,by omega,by exact se hk2 l3,p3⟩,by exact L5 hsum hk1 (by assumption) he4,hg⟩)
      ·have p2:=p'
       have p3:=eI p2 m1 m4 m5
       refine wpS_bind (aE m4 ?_);refine ad (fun he=>wpS_pure ⟨hg,.inl ⟨_,_,rfl,cj p3⟩⟩) (?_);delta he4;replace he4:k-1≠0:=fun q=>he4 (beq_iff_eq.mpr q)
       exact ad (fun U=>wpS_pure ⟨hg,.inr ⟨_,k-1,(nb-1),_,_,_,rfl,⟨by exact qD he4,by exact sc l2 he hk2 hk0,by omega,by omega,p3⟩,by exact uH l2 he4 hsum (by assumption)⟩⟩) (fun U=>wpS_pure ⟨_,k-1,(nb-1),_,_,_,rfl,⟨by exact qD he4,by exact sc l2 he hk2 hk0,by omega,by omega,p3⟩,by exact uH l2 he4 hsum (by assumption),hg⟩)
     ·have p1:=L.perm
      have m1:=l1
      have m5:=l5
      have m4:na-1<a.size:=by omega
      have p':=j4 p1 (by exact xt l2) l3 l6
      refine wpS_bind (aE l3 ?_);refine ad (fun he=>wpS_pure ⟨hg,.inl ⟨_,_,rfl,dL p'⟩⟩) (?_);delta he;replace he:nb-1≠1:=fun q=>he (beq_iff_eq.mpr q)
      refine wpS_bind (aE m4 (wpS_bind (ck (base:=0) (n:=nb-1) (hint:=nb-1-1) (hg.kind.trans hk) (ha.at _) hb (by exact zi l3) (by exact zh l2) ?_)));delta k2 hk2;refine ad (fun hk0=>?_) (fun hk0=>?_)
      ·have p2:=mw p' hk2
       refine ad (fun he=>wpS_pure ⟨hg,.inl ⟨_,_,rfl,dL p2⟩⟩) (?_);delta he3;replace he3:k2≠1:=fun q=>he3 (beq_iff_eq.mpr q)
       refine ad (fun he=>wpS_pure ⟨hg,.inl ⟨_,_,rfl,cj p2⟩⟩) (?_);delta he6;replace he6:k2≠0:=fun q=>he6 (beq_iff_eq.mpr q)
       have p3:=eI p2 m1 m4 m5
       refine wpS_bind (aE m4 ?_);refine ad (fun he=>wpS_pure ⟨hg,.inl ⟨_,_,rfl,cj p3⟩⟩) (?_);delta he4;replace he4:na-1≠0:=fun q=>he4 (beq_iff_eq.mpr q)
       exact ad (fun U=>wpS_pure ⟨hg,.inr ⟨_,na-1,k2,_,_,_,rfl,⟨by exact qD he4,by exact sf he6 he3,by omega,by exact se hk2 l3,p3⟩,by exact uG l1 hsum hk0⟩⟩) (fun U=>wpS_pure ⟨_,na-1,k2,_,_,_,rfl,⟨by exact qD he4,by exact sf he6 he3,by omega,by exact se hk2 l3,p3⟩,by exact uG l1 hsum hk0,hg⟩)
      ·have p2:=p'
       have p3:=eI p2 m1 m4 m5
       refine wpS_bind (aE m4 ?_);refine ad (fun he=>wpS_pure ⟨hg,.inl ⟨_,_,rfl,cj p3⟩⟩) (?_);delta he4;replace he4:na-1≠0:=fun q=>he4 (beq_iff_eq.mpr q)
       exact ad (fun U=>wpS_pure ⟨hg,.inr ⟨_,na-1,(nb-1),_,_,_,rfl,⟨by exact qD he4,by exact sc l2 he hk2 hk0,by omega,by omega,p3⟩,by exact zg l1 l2 hsum⟩⟩) (fun U=>wpS_pure ⟨_,na-1,(nb-1),_,_,_,rfl,⟨by exact qD he4,by exact sc l2 he hk2 hk0,by omega,by omega,p3⟩,by exact zg l1 l2 hsum,hg⟩)
    ·refine wpS_bind (iE ?_);delta st2 hg2;replace hg:=hg.trans hg2;refine wpS_bind (aE l3 (wpS_bind (ck (base:=0) (n:=na) (hint:=na-1) (hg.kind.trans hk) (hb.at l3) ha (by exact Dm l5) (by exact zj l1) ?_)));delta k hk1;refine ad (fun hk0=>?_) (fun hk0=>?_)
     ·have p1:=uW L.perm hk1
      refine ad (fun he=>wpS_pure ⟨hg,.inl ⟨_,_,rfl,cj p1⟩⟩) (?_);delta he;replace he:k≠0:=fun q=>he (beq_iff_eq.mpr q)
      have m1:1≤k:=by exact Dl he
      have m5:k≤a.size:=by omega
      have m4:k-1<a.size:=by exact Dk h1 hk1 l5
      have p':=j4 p1 (by exact xt l2) l3 l6
      refine wpS_bind (aE l3 ?_);refine ad (fun he=>wpS_pure ⟨hg,.inl ⟨_,_,rfl,dL p'⟩⟩) (?_);delta he;replace he:nb-1≠1:=fun q=>he (beq_iff_eq.mpr q)
      refine wpS_bind (aE m4 (wpS_bind (ck (base:=0) (n:=nb-1) (hint:=nb-1-1) (hg.kind.trans hk) (ha.at _) hb (by exact zi l3) (by exact zh l2) ?_)));delta k2 hk2;refine ad (fun hk0=>?_) (fun hk0=>?_)
      ·have p2:=mw p' hk2
       refine ad (fun he=>wpS_pure ⟨hg,.inl ⟨_,_,rfl,dL p2⟩⟩) (?_);delta he3;replace he3:k2≠1:=fun q=>he3 (beq_iff_eq.mpr q)
       refine ad (fun he=>wpS_pure ⟨hg,.inl ⟨_,_,rfl,cj p2⟩⟩) (?_);delta he6;replace he6:k2≠0:=fun q=>he6 (beq_iff_eq.mpr q)
       have p3:=eI p2 m1 m4 m5
       refine wpS_bind (aE m4 ?_);refine ad (fun he=>wpS_pure ⟨hg,.inl ⟨_,_,rfl,cj p3⟩⟩) (?_);delta he4;replace he4:k-1≠0:=fun q=>he4 (beq_iff_eq.mpr q)
       exact ad (fun U=>wpS_pure ⟨hg,.inr ⟨_,k-1,k2,_,_,_,rfl,⟨by exact qD he4,by exact sf he6 he3,by omega,by exact se hk2 l3,p3⟩,by exact L5 hsum hk1 (by assumption) he4⟩⟩) (fun U=>wpS_pure ⟨_,k-1,k2,_,_,_,rfl,⟨by exact qD he4,by exact sf he6 he3,by omega,by exact se hk2 l3,p3⟩,by exact L5 hsum hk1 (by assumption) he4,hg⟩)
      ·have p2:=p'
       have p3:=eI p2 m1 m4 m5
       refine wpS_bind (aE m4 ?_);refine ad (fun he=>wpS_pure ⟨hg,.inl ⟨_,_,rfl,cj p3⟩⟩) (?_);delta he4;replace he4:k-1≠0:=fun q=>he4 (beq_iff_eq.mpr q)
       exact ad (fun U=>wpS_pure ⟨hg,.inr ⟨_,k-1,(nb-1),_,_,_,rfl,⟨by exact qD he4,by exact sc l2 he hk2 hk0,by omega,by omega,p3⟩,by exact uH l2 he4 hsum (by assumption)⟩⟩) (fun U=>wpS_pure ⟨_,k-1,(nb-1),_,_,_,rfl,⟨by exact qD he4,by exact sc l2 he hk2 hk0,by omega,by omega,p3⟩,by exact uH l2 he4 hsum (by assumption),hg⟩)
     ·have p1:=L.perm
      have m1:=l1
      have m5:=l5
      have m4:na-1<a.size:=by omega
      have p':=j4 p1 (by exact xt l2) l3 l6
      refine wpS_bind (aE l3 ?_);refine ad (fun he=>wpS_pure ⟨hg,.inl ⟨_,_,rfl,dL p'⟩⟩) (?_);delta he;replace he:nb-1≠1:=fun q=>he (beq_iff_eq.mpr q)
      refine wpS_bind (aE m4 (wpS_bind (ck (base:=0) (n:=nb-1) (hint:=nb-1-1) (hg.kind.trans hk) (ha.at _) hb (by exact zi l3) (by exact zh l2) ?_)));delta k2 hk2;refine ad (fun hk0=>?_) (fun hk0=>?_)
      ·have p2:=mw p' hk2
       refine ad (fun he=>wpS_pure ⟨hg,.inl ⟨_,_,rfl,dL p2⟩⟩) (?_);delta he3;replace he3:k2≠1:=fun q=>he3 (beq_iff_eq.mpr q)
       refine ad (fun he=>wpS_pure ⟨hg,.inl ⟨_,_,rfl,cj p2⟩⟩) (?_);delta he6;replace he6:k2≠0:=fun q=>he6 (beq_iff_eq.mpr q)
       have p3:=eI p2 m1 m4 m5
       refine wpS_bind (aE m4 ?_);refine ad (fun he=>wpS_pure ⟨hg,.inl ⟨_,_,rfl,cj p3⟩⟩) (?_);delta he4;replace he4:na-1≠0:=fun q=>he4 (beq_iff_eq.mpr q)
       exact ad (fun U=>wpS_pure ⟨hg,.inr ⟨_,na-1,k2,_,_,_,rfl,⟨by exact qD he4,by exact sf he6 he3,by omega,by exact se hk2 l3,p3⟩,by exact uG l1 hsum hk0⟩⟩) (fun U=>wpS_pure ⟨_,na-1,k2,_,_,_,rfl,⟨by exact qD he4,by exact sf he6 he3,by omega,by exact se hk2 l3,p3⟩,by exact uG l1 hsum hk0,hg⟩)
      ·have p2:=p'
       have p3:=eI p2 m1 m4 m5
       refine wpS_bind (aE m4 ?_);refine ad (fun he=>wpS_pure ⟨hg,.inl ⟨_,_,rfl,cj p3⟩⟩) (?_);delta he4;replace he4:na-1≠0:=fun q=>he4 (beq_iff_eq.mpr q)
       exact ad (fun U=>wpS_pure ⟨hg,.inr ⟨_,na-1,(nb-1),_,_,_,rfl,⟨by exact qD he4,by exact sc l2 he hk2 hk0,by omega,by omega,p3⟩,by exact zg l1 l2 hsum⟩⟩) (fun U=>wpS_pure ⟨_,na-1,(nb-1),_,_,_,rfl,⟨by exact qD he4,by exact sc l2 he hk2 hk0,by omega,by omega,p3⟩,by exact zg l1 l2 hsum,hg⟩)
end
section
variable {prog:Program} {w:World} {A:Around} {E:Value→Shared→Prop} {s:Shared} {a₀:Array Keyed}
theorem IK.of {a b:Array Keyed} (h:IK a) (p:b.Perm a):IK b:=fun x hx=>h x (by
 have:=(Array.perm_iff_toList_perm.mp p).mem_iff (a:=x)
 simpa using this.mp (by simpa using hx))
theorem SP.size {st:SortSt} (h:SP a₀ st):(arrOf st).size=a₀.size:=h.perm.size_eq
theorem SP.sg {st st':SortSt} (h:SP a₀ st) (g:SG st st'):SP a₀ st':=⟨by erw[g.arr];exact h.perm,g.kind.trans h.kind,g.failed.trans h.failed⟩
theorem SP.setArr {st:SortSt} (h:SP a₀ st) {xs:Array Keyed} (hp:xs.Perm (arrOf st)):SP a₀ (setArr st xs):=⟨hp.trans h.perm,h.kind,h.failed⟩
theorem ey {st:SortSt} {i j:Nat} {Q:Option Bool→SortSt→Prop} (hB:SP a₀ st) (h0:IK a₀) (hi:i<a₀.size) (hj:j<a₀.size) (h:∀b,Q (some b) st):wpS (model prog w) A E s (ltAt' i j) Q st:=by
 have hk:=h0.of hB.perm
 have hs:=hB.size
 erw[ltAt'_eq];refine wpS_bind (wpS_get ?_);exact wpS_bind (aE (by exact uI hi hs) (wpS_bind (aE (by exact uI hj hs) (mB hB.kind (hk.at _) (hk.at _) h))))
theorem ew {st:SortSt} {i j:Nat} {Q:Unit→SortSt→Prop} (hB:SP a₀ st) (h:∀st',SP a₀ st'→pendingOf st'=pendingOf st→Q () st'):wpS (model prog w) A E s (reverseSlice' i j) Q st:=by
 erw[reverseSlice'_eq];exact wpS_modify (h _ (hB.setArr (mirror_perm _ _ _ _)) rfl)
theorem vv {st:SortSt} {i j:Nat} {Q:Unit→SortSt→Prop} (hB:SP a₀ st) (h:∀st',SP a₀ st'→pendingOf st'=pendingOf st→Q () st'):wpS (model prog w) A E s (moveDown' i j) Q st:=by
 erw[moveDown'_eq];exact wpS_modify (h _ (hB.setArr (bubble_perm _ _ _)) rfl)
theorem rz {st:SortSt} {lo n ok:Nat} {Q:Bool→SortSt→Prop} (h0:IK a₀) (hn:lo+n≤a₀.size) (hB:SP a₀ st) (h:∀st',SP a₀ st'→pendingOf st'=pendingOf st→Q true st'):wpS (model prog w) A E s (binarySort' lo n ok) Q st:=by
 delta prog w A E s a₀ st lo n ok Q h0 hn hB h at ⊢;unfold binarySort';refine wpS_bind (wpS_mono (wpS_forRange (I:=fun k c st'=>c=(none,())∧SP a₀ st'∧pendingOf st'=pendingOf st) (Q:=fun c st'=>c=(none,())∧SP a₀ st'∧pendingOf st'=pendingOf st) ?step (fun c st' h=>h) ⟨rfl,hB,rfl⟩) ?post);case post=>rintro c st' ⟨rfl,hB,hp⟩;exact wpS_pure (h _ hB hp)
 case step=>
  delta k c st1 hk1 hk2;intro z155;injection z155 with rfl hB1 hp1;refine wpS_bind (wpS_mono (wpS_forRange (I:=fun U c st'=>∃l r,c=(none,l,r)∧r≤k∧SP a₀ st'∧pendingOf st'=pendingOf st) (Q:=fun c st'=>∃l r,c=(none,l,r)∧SP a₀ st'∧pendingOf st'=pendingOf st) ?cV ?fin1 ⟨0,k,rfl,Nat.le_refl _,hB1,hp1⟩) ?post1);case fin1=>rintro c st' ⟨l,r,rfl,_,hB,hp⟩;exact⟨l,r,rfl,hB,hp⟩
  case cV=>
   delta j c st2;intro _;intro _;intro z158;injection z158 with l r rfl hr hB2 hp2;refine ad (fun U=>wpS_pure ⟨_,_,rfl,hB2,hp2⟩) ?_;delta hlr;replace hlr:¬(l≥r):=hlr;have hm:(l+r)/2<k:=by exact D1 (by assumption) (by assumption)
   refine wpS_bind (ey (i:=lo+k) (j:=lo+(l+r)/2) hB2 h0 (by exact wC hn hk2) (by exact LM hn hk2 hm) ?_);delta less;exact ad (fun U=>wpS_pure ⟨l,(l+r)/2,rfl,by omega,hB2,hp2⟩) (fun U=>wpS_pure ⟨(l+r)/2+1,r,rfl,hr,hB2,hp2⟩)
  case post1=>
   delta c st2;intro z164;injection z164 with l r rfl hB2 hp2;exact wpS_bind (vv hB2 fun st3 hB3 hp3=>wpS_pure ⟨rfl,hB3,hp3.trans hp2⟩)
theorem ti {st:SortSt} {lo nrem:Nat} {Q:Option Nat→SortSt→Prop} (h0:IK a₀) (hn:lo+nrem≤a₀.size) (h1:1≤nrem) (hB:SP a₀ st)
 (h:∀n st',1≤n→n≤nrem→SP a₀ st'→pendingOf st'=pendingOf st→Q (some n) st'):wpS (model prog w) A E s (countRun' lo nrem) Q st:=by
 delta prog w A E s a₀ st lo nrem Q h0 hn h1 hB h at ⊢;unfold countRun';refine wpS_bind (wpS_mono (wpS_forRange (I:=fun i c st'=>c=(none,i)∧SP a₀ st'∧pendingOf st'=pendingOf st) (Q:=fun c st'=>∃n,c=(none,n)∧1≤n∧n≤nrem∧SP a₀ st'∧pendingOf st'=pendingOf st) ?step ?fin ⟨rfl,hB,rfl⟩) ?post);case fin=>rintro c st' ⟨rfl,hB,hp⟩;exact⟨_,rfl,by exact JS h1,by exact JR h1,hB,hp⟩
 case step=>
  delta i c st1 hi1 hi2;intro z169;injection z169 with rfl hB1 hp1;refine wpS_bind (ey (i:=lo+i) (j:=lo+i-1) hB1 h0 (by exact wC hn hi2) (by exact JP hi1 hn hi2) ?_);delta b;exact ad (fun U=>wpS_pure ⟨i,rfl,hi1,by omega,hB1,hp1⟩) (fun U=>wpS_pure ⟨rfl,hB1,hp1⟩)
 case post=>
  delta c st1;intro z172;injection z172 with n rfl hn1 hn2 hB1 hp1;refine ad (fun U=>wpS_pure (h _ _ hn1 hn2 hB1 hp1)) ?_;delta hne;replace hne:n≠nrem:=fun q=>hne (beq_iff_eq.mpr q)
  refine ad (fun U=>?_) (fun U=>?_)
  ·refine wpS_bind (ey (i:=lo) (j:=lo+n-1) hB1 h0 (by exact JN h1 hn) (by exact JM hn1 hn hne hn2) ?_);delta rose;refine ad (fun U=>wpS_pure (h _ _ hn1 hn2 hB1 hp1)) ?_;intro _;refine wpS_bind (ew hB1 ?_);delta st1 hB1 hp;replace hp1:=hp.trans hp1;refine wpS_bind (wpS_lift (wpAny_rule ⟨rfl,?_⟩));refine wpS_bind (wpS_mono (wpS_forRange (I:=fun i c st'=>∃neq,c=(none,i,neq)∧n+1≤i∧SP a₀ st'∧pendingOf st'=pendingOf st) (Q:=fun c st'=>∃n' neq,c=(none,n',neq)∧n+1≤n'∧n'≤nrem∧SP a₀ st'∧pendingOf st'=pendingOf st) ?s2x ?f2x ⟨0,rfl,Nat.le_refl _,hB1,hp1⟩) ?p2x);case f2x=>rintro c st' ⟨neq,rfl,hle,hB,hp⟩;exact⟨_,neq,rfl,by omega,by exact E0 hne hn2,hB,hp⟩
   case s2x=>
    delta i c st1 hi1 hi2;intro z178;injection z178 with neq rfl hle hB1 hp1;refine wpS_bind (ey (i:=lo+i) (j:=lo+i-1) hB1 h0 (by exact wC hn hi2) (by exact zf h1 hn hi2) ?_);delta b;refine ad (fun U=>?_) (fun U=>?_)
    ·exact ad (fun U=>wpS_bind (ew hB1 fun st2 hB2 hp2=>wpS_pure ⟨_,rfl,by omega,hB2,hp2.trans hp1⟩)) (fun U=>wpS_pure ⟨_,rfl,by omega,hB1,hp1⟩)
    ·refine wpS_bind (ey (i:=lo+i-1) (j:=lo+i) hB1 h0 (by exact zf h1 hn hi2) (by exact wC hn hi2) ?_);delta b;exact ad (fun U=>wpS_pure ⟨i,_,rfl,by omega,by omega,hB1,hp1⟩) (fun U=>wpS_pure ⟨_,rfl,by omega,hB1,hp1⟩)
   case p2x=>
    delta c st1;intro z183;injection z183 with n2 neq rfl hn3 hn4 hB1 hp1;refine ad (fun U=>?_) (fun U=>?_)
    ·refine wpS_bind (ew hB1 ?_);delta st1 hB1 hp;replace hp1:=hp.trans hp1;refine wpS_bind (ew hB1 ?_);delta st1 hB1 hp;replace hp1:=hp.trans hp1;refine wpS_bind (wpS_mono (wpS_forRange (a:=n2) (b:=nrem) (I:=fun i c st'=>c=(none,i)∧n2≤i∧SP a₀ st'∧pendingOf st'=pendingOf st) (Q:=fun c st'=>∃n,c=(none,n)∧1≤n∧n≤nrem∧SP a₀ st'∧pendingOf st'=pendingOf st) ?s3Ax ?f3Ax ⟨rfl,Nat.le_refl _,hB1,hp1⟩) ?p3Ax);case f3Ax=>rintro c st' ⟨rfl,_,hB,hp⟩;exact⟨_,rfl,by exact Dj (by assumption) hn3 (by assumption),by exact ze hn4,hB,hp⟩
     case s3Ax=>
      delta i c st1 hi1 hi2;intro z190;injection z190 with rfl hle hB1 hp1;refine wpS_bind (ey (i:=lo+i) (j:=lo+i-1) hB1 h0 (by exact wC hn hi2) (by exact zf h1 hn hi2) ?_);delta b;exact ad (fun U=>wpS_pure ⟨i,rfl,by exact Di hn3 hi1 (by assumption),by omega,hB1,hp1⟩) (fun U=>wpS_pure ⟨rfl,by omega,hB1,hp1⟩)
     case p3Ax=>
      delta c st1;intro z194;injection z194 with n3 rfl hn3 hn4 hB1 hp1;exact wpS_pure (h _ _ hn3 hn4 hB1 hp1)
    ·skip;refine wpS_bind (ew hB1 ?_);delta st1 hB1 hp;replace hp1:=hp.trans hp1;refine wpS_bind (wpS_mono (wpS_forRange (a:=n2) (b:=nrem) (I:=fun i c st'=>c=(none,i)∧n2≤i∧SP a₀ st'∧pendingOf st'=pendingOf st) (Q:=fun c st'=>∃n,c=(none,n)∧1≤n∧n≤nrem∧SP a₀ st'∧pendingOf st'=pendingOf st) ?s3Bx ?f3Bx ⟨rfl,Nat.le_refl _,hB1,hp1⟩) ?p3Bx);case f3Bx=>rintro c st' ⟨rfl,_,hB,hp⟩;exact⟨_,rfl,by exact Dj (by assumption) hn3 (by assumption),by exact ze hn4,hB,hp⟩
     case s3Bx=>
      delta i c st1 hi1 hi2;intro z200;injection z200 with rfl hle hB1 hp1;refine wpS_bind (ey (i:=lo+i) (j:=lo+i-1) hB1 h0 (by exact wC hn hi2) (by exact zf h1 hn hi2) ?_);delta b;exact ad (fun U=>wpS_pure ⟨i,rfl,by exact Di hn3 hi1 (by assumption),by omega,hB1,hp1⟩) (fun U=>wpS_pure ⟨rfl,by omega,hB1,hp1⟩)
     case p3Bx=>
      delta c st1;intro z204;injection z204 with n3 rfl hn3 hn4 hB1 hp1;exact wpS_pure (h _ _ hn3 hn4 hB1 hp1)
  ·skip;refine wpS_bind (wpS_lift (wpAny_rule ⟨rfl,?_⟩));refine wpS_bind (wpS_mono (wpS_forRange (I:=fun i c st'=>∃neq,c=(none,i,neq)∧n+1≤i∧SP a₀ st'∧pendingOf st'=pendingOf st) (Q:=fun c st'=>∃n' neq,c=(none,n',neq)∧n+1≤n'∧n'≤nrem∧SP a₀ st'∧pendingOf st'=pendingOf st) ?s2y ?f2y ⟨0,rfl,Nat.le_refl _,hB1,hp1⟩) ?p2y);case f2y=>rintro c st' ⟨neq,rfl,hle,hB,hp⟩;exact⟨_,neq,rfl,by omega,by exact JL h1 hn1 hne hn2 (by assumption),hB,hp⟩
   case s2y=>
    delta i c st1 hi1 hi2;intro z210;injection z210 with neq rfl hle hB1 hp1;refine wpS_bind (ey (i:=lo+i) (j:=lo+i-1) hB1 h0 (by exact wC hn hi2) (by exact Dh hn1 hn hi2 hi1 (by assumption)) ?_);delta b;refine ad (fun U=>?_) (fun U=>?_)
    ·exact ad (fun U=>wpS_bind (ew hB1 fun st2 hB2 hp2=>wpS_pure ⟨_,rfl,by omega,hB2,hp2.trans hp1⟩)) (fun U=>wpS_pure ⟨_,rfl,by omega,hB1,hp1⟩)
    ·refine wpS_bind (ey (i:=lo+i-1) (j:=lo+i) hB1 h0 (by exact Dh hn1 hn hi2 hi1 (by assumption)) (by exact wC hn hi2) ?_);delta b;exact ad (fun U=>wpS_pure ⟨i,_,rfl,by omega,by omega,hB1,hp1⟩) (fun U=>wpS_pure ⟨_,rfl,by omega,hB1,hp1⟩)
   case p2y=>
    delta c st1;intro z215;injection z215 with n2 neq rfl hn3 hn4 hB1 hp1;refine ad (fun U=>?_) (fun U=>?_)
    ·refine wpS_bind (ew hB1 ?_);delta st1 hB1 hp;replace hp1:=hp.trans hp1;refine wpS_bind (ew hB1 ?_);delta st1 hB1 hp;replace hp1:=hp.trans hp1;refine wpS_bind (wpS_mono (wpS_forRange (a:=n2) (b:=nrem) (I:=fun i c st'=>c=(none,i)∧n2≤i∧SP a₀ st'∧pendingOf st'=pendingOf st) (Q:=fun c st'=>∃n,c=(none,n)∧1≤n∧n≤nrem∧SP a₀ st'∧pendingOf st'=pendingOf st) ?s3Ay ?f3Ay ⟨rfl,Nat.le_refl _,hB1,hp1⟩) ?p3Ay);case f3Ay=>rintro c st' ⟨rfl,_,hB,hp⟩;exact⟨_,rfl,by exact Dg hn1 (by assumption) hn3 (by assumption),by exact ze hn4,hB,hp⟩
     case s3Ay=>
      delta i c st1 hi1 hi2;intro z222;injection z222 with rfl hle hB1 hp1;refine wpS_bind (ey (i:=lo+i) (j:=lo+i-1) hB1 h0 (by exact wC hn hi2) (by exact Df hn hn1 (by assumption) hn3 hi1 hi2) ?_);delta b;exact ad (fun U=>wpS_pure ⟨i,rfl,by exact De hn1 hn3 hi1 (by assumption),by omega,hB1,hp1⟩) (fun U=>wpS_pure ⟨rfl,by omega,hB1,hp1⟩)
     case p3Ay=>
      delta c st1;intro z226;injection z226 with n3 rfl hn3 hn4 hB1 hp1;exact wpS_pure (h _ _ hn3 hn4 hB1 hp1)
    ·skip;refine wpS_bind (ew hB1 ?_);delta st1 hB1 hp;replace hp1:=hp.trans hp1;refine wpS_bind (wpS_mono (wpS_forRange (a:=n2) (b:=nrem) (I:=fun i c st'=>c=(none,i)∧n2≤i∧SP a₀ st'∧pendingOf st'=pendingOf st) (Q:=fun c st'=>∃n,c=(none,n)∧1≤n∧n≤nrem∧SP a₀ st'∧pendingOf st'=pendingOf st) ?s3By ?f3By ⟨rfl,Nat.le_refl _,hB1,hp1⟩) ?p3By);case f3By=>rintro c st' ⟨rfl,_,hB,hp⟩;exact⟨_,rfl,by exact Dg hn1 (by assumption) hn3 (by assumption),by exact ze hn4,hB,hp⟩
     case s3By=>
      delta i c st1 hi1 hi2;intro z232;injection z232 with rfl hle hB1 hp1;refine wpS_bind (ey (i:=lo+i) (j:=lo+i-1) hB1 h0 (by exact wC hn hi2) (by exact Df hn hn1 (by assumption) hn3 hi1 hi2) ?_);delta b;exact ad (fun U=>wpS_pure ⟨i,rfl,by exact De hn1 hn3 hi1 (by assumption),by omega,hB1,hp1⟩) (fun U=>wpS_pure ⟨rfl,by omega,hB1,hp1⟩)
     case p3By=>
      delta c st1;intro z236;injection z236 with n3 rfl hn3 hn4 hB1 hp1;exact wpS_pure (h _ _ hn3 hn4 hB1 hp1)
def cP:List (Nat×Nat×Nat)→Nat→Nat→Prop
 | [],a,b=>a=b
 | (s,n,_)::r,a,b=>s=a∧1≤n∧cP r (a+n) b
theorem cP.le:∀{p:List (Nat×Nat×Nat)} {a b:Nat},cP p a b→a≤b
 | [],a,b,h=>Nat.le_of_eq h
 | (s,n,_)::r,a,b,h=>by have:=cP.le h.2.2;exact JK this
theorem cP.append:∀{p q:List (Nat×Nat×Nat)} {a b:Nat},cP (p++q) a b↔∃c,cP p a c∧cP q c b
 | [],q,a,b=>⟨fun h=>⟨a,rfl,h⟩,fun⟨c,e,h⟩=>by cases e;exact h⟩
 | (s,n,w)::r,q,a,b=>by
  show(s=a∧1≤n∧cP (r++q) (a+n) b)↔_
  erw[cP.append];constructor
  ·rintro⟨h1,h2,c,h3,h4⟩;exact⟨c,⟨h1,h2,h3⟩,h4⟩
  ·rintro⟨c,⟨h1,h2,h3⟩,h4⟩;exact⟨h1,h2,c,h3,h4⟩
theorem cP.push {p:List (Nat×Nat×Nat)} {a b n w:Nat} (h:cP p a b) (hn:1≤n):cP (p++[(b,n,w)]) a (b+n):=cP.append.mpr ⟨b,h,rfl,hn,rfl⟩
theorem cP.last {p:List (Nat×Nat×Nat)} {a b:Nat} (h:cP p a b) (f:Nat) (i:Nat):cP (p.modify i fun x=>(x.1,x.2.1,f)) a b:=by
 induction p generalizing a i with
 | nil=>simpa using h
 | cons x r ih=>
  obtain⟨s,n,w⟩:=x;cases i with
  | zero=>exact⟨h.1,h.2.1,h.2.2⟩
  | succ i=>exact⟨h.1,h.2.1,ih h.2.2 i⟩
theorem xh {α:Type} {l:List α} {i:Nat} {x y:α} (hx:l[i]?=some x) (hy:l[i+1]?=some y):∃p q,l=p++x::y::q∧p.length=i:=by
 induction l generalizing i with
 | nil=>simp at hx
 | cons a r ih=>
  cases i with
  | zero=>
   simp at hx hy;subst hx;cases r with
   | nil=>simp at hy
   | cons b r=>simp at hy;subst hy;exact⟨[],r,rfl,rfl⟩
  | succ i=>
   simp at hx hy;obtain⟨p,q,e,hl⟩:=ih hx hy;exact⟨a::p,q,by erw[e];rfl,by simp[hl]⟩
end
section
variable {prog:Program} {w:World} {A:Around} {E:Value→Shared→Prop} {s:Shared} {a₀:Array Keyed}
theorem yw {σ:Type} {M:Model} {x:σ} {st:σ} {Q:PUnit→σ→Prop} (h:Q ⟨⟩ x):wpS M A E s (set x:StateT σ Sem PUnit) Q st:=by
 unfold wpS;exact wpAny_pure ⟨rfl,h⟩
theorem IK.extract {a:Array Keyed} (h:IK a) (i j:Nat):IK (a.extract i j):=fun p hp=>by
 obtain⟨k,hk,rfl⟩:=Array.mem_iff_getElem.mp hp;erw[Array.getElem_extract];exact h _ (Array.getElem_mem _)
theorem sF (sa:Nat):∀(l:List Keyed) (k:Nat) (a:Array Keyed),sa+k+l.length≤a.size→
 ((l.zipIdx k).foldl (fun a x=>a.setIfInBounds (sa+x.2) x.1) a).toList=a.toList.take (sa+k)++l++a.toList.drop (sa+k+l.length)
 | [],k,a,h=>by simp
 | x::r,k,a,h=>by
  erw[List.zipIdx_cons,List.foldl_cons,sF sa r (k+1) _ (by simp at h ⊢;exact JJ h)];simp only[List.length_cons]at h;have hk:sa+k<a.toList.length:=by simp;exact JI h
  erw[Array.toList_setIfInBounds]
  have e1:(a.toList.set (sa+k) x).take (sa+(k+1))=a.toList.take (sa+k)++[x]:=by
   erw[show sa+(k+1)=sa+k+1 by exact Dd,List.take_add_one];erw[List.take_set_of_le (Nat.le_refl _),List.getElem?_set_self hk];rfl
  have e2:(a.toList.set (sa+k) x).drop (sa+(k+1)+r.length)=a.toList.drop (sa+k+(r.length+1)):=by
   erw[List.drop_set_of_lt (by exact JH)];congr 1;exact JG
  erw[e1,e2,List.length_cons];simp
theorem xj {a:Array Keyed} {m:Array Keyed} {i j k:Nat} (hij:i≤j) (hjk:j≤k) (hk:k≤a.size) (hm:m.toList.Perm ((a.extract i j).toList++(a.extract j k).toList)):
 (m.toList.zipIdx.foldl (fun a x=>a.setIfInBounds (i+x.2) x.1) a).Perm a:=by
 delta a m i j k hij hjk hk hm at ⊢;have hl:=hm.length_eq
 simp only[List.length_append,Array.length_toList,Array.size_extract]at hl;have hml:m.size=k-i:=by exact A1 hij hjk hk hl
 erw[Array.perm_iff_toList_perm,sF i m.toList 0 a (by simp;exact A2 hij hjk hk hml)]
 have e:(a.extract i j).toList++(a.extract j k).toList=(a.toList.drop i).take (k-i):=by
  simp only[Array.toList_extract,List.extract_eq_take_drop];have:a.toList.drop j=(a.toList.drop i).drop (j-i):=by erw[List.drop_drop];congr 1;exact Dp hij
  erw[this,i4];congr 1;exact A3 hij hjk
 rw[e]at hm
 have e2:a.toList=a.toList.take i++((a.toList.drop i).take (k-i)++a.toList.drop k):=by
  have:a.toList.drop k=(a.toList.drop i).drop (k-i):=by erw[List.drop_drop];congr 1;exact A4 hij hjk
  erw[this,List.take_append_drop,List.take_append_drop]
 conv=>rhs;erw[e2]
 erw[List.append_assoc,Nat.add_zero,show i+m.toList.length=k by simp;exact A5 hij hjk hml];exact(hm.append_right _).append_left _
theorem hV {st:SortSt} {i e:Nat} {Q:Bool→SortSt→Prop} (h0:IK a₀) (hB:SP a₀ st) (hi:i+1<(pendingOf st).size) (hr:cP (pendingOf st).toList 0 e) (he:e≤a₀.size)
 (h:∀st',SP a₀ st'→cP (pendingOf st').toList 0 e→(pendingOf st').size+1=(pendingOf st).size→Q true st'):wpS (model prog w) A E s (mergeAt' i) Q st:=by
 delta prog w A E s a₀ st i e Q h0 hB hi hr he h at ⊢
 have hx:(pendingOf st)[i]?=some ((pendingOf st)[i]):=by simp
 have hy:(pendingOf st)[i+1]?=some ((pendingOf st)[i+1]):=by simp
 generalize hpa:(pendingOf st)[i]=x at hx
 generalize hpb:(pendingOf st)[i+1]=y at hy
 obtain⟨sa,na,pa⟩:=x
 obtain⟨sb,nb,pb⟩:=y
 obtain⟨p,q,hpq,hpl⟩:=xh (l:=(pendingOf st).toList) (i:=i) (by simpa using hx) (by simpa using hy)
 rw[hpq] at hr
 obtain⟨c,r1,r2⟩:=cP.append.mp hr
 obtain⟨rfl,n1,rfl,n2,r3⟩:=r2
 have hle:=r3.le
 have hsz:=hB.size
 have hk:=h0.of hB.perm
 -- the list of runs afterwards
 have e1:(((pendingOf st).setIfInBounds i (sa,na+nb,pa)).eraseIdxIfInBounds (i+1)).toList=p++(sa,na+nb,pa)::q:=by
  erw[Array.toList_eraseIdxIfInBounds,Array.toList_setIfInBounds,hpq,←hpl,List.set_append_right _ _ (Nat.le_refl _),List.eraseIdx_append_of_length_le (by omega)]
  simp
 have hr':cP (((pendingOf st).setIfInBounds i (sa,na+nb,pa)).eraseIdxIfInBounds (i+1)).toList 0 e:=by
  erw[e1]
  exact cP.append.mpr ⟨sa,r1,rfl,by exact JF n1,by erw[←Nat.add_assoc];exact r3⟩
 have hsz':(((pendingOf st).setIfInBounds i (sa,na+nb,pa)).eraseIdxIfInBounds (i+1)).size+1=(pendingOf st).size:=by
  have a1:=congrArg List.length e1
  have a2:=congrArg List.length hpq
  simp only[List.length_append,List.length_cons,Array.length_toList] at a1 a2
  exact JE a1 a2 hpl
 unfold mergeAt'
 refine wpS_bind (wpS_get ?_)
 simp only[hx,hy]
 refine wpS_bind (yw ?_)
 have hBn:SP a₀ (setPending st (((pendingOf st).setIfInBounds i (sa,na+nb,pa)).eraseIdxIfInBounds (i+1))):=⟨hB.perm,hB.kind,hB.failed⟩
 have l1:sa+na<(arrOf st).size:=by exact JD n2 hle hsz he
 refine wpS_bind (aE (i:=sa+na) l1 (wpS_bind (ck (arr:=arrOf st) (base:=sa) (n:=na) (hint:=0) hBn.kind (hk.at l1) hk (by omega) (by exact Du n1) fun k hkn=>?_)))
 refine ad (fun U=>wpS_pure (h _ hBn hr' hsz')) fun hne=>?_
 replace hne:na-k≠0:=fun q=>hne (beq_iff_eq.mpr q)
 have l2:sa+k+(na-k)-1<(arrOf st).size:=by exact JC he n1 n2 hle hsz l1 hne
 refine wpS_bind (aE (i:=sa+k+(na-k)-1) l2 (wpS_bind (ck (arr:=arrOf st) (base:=sa+na) (n:=nb) (hint:=nb-1) hBn.kind (hk.at l2) hk (by exact JB hle hsz he) (by exact zj n2) fun k2 hk2=>?_)))
 refine ad (fun U=>wpS_pure (h _ hBn hr' hsz')) fun hne2=>?_
 replace hne2:k2≠0:=fun q=>hne2 (beq_iff_eq.mpr q)
 have z1:1≤((arrOf st).extract (sa+k) (sa+na)).size:=by erw[Array.size_extract];exact A6 l1 hne
 have z2:1≤((arrOf st).extract (sa+na) (sa+na+k2)).size:=by erw[Array.size_extract];exact JA l1 hne2 hsz
 have fin:∀(m:Array Keyed) (st':SortSt),m.toList.Perm (((arrOf st).extract (sa+k) (sa+na)).toList++((arrOf st).extract (sa+na) (sa+na+k2)).toList)→
  SG (setPending st (((pendingOf st).setIfInBounds i (sa,na+nb,pa)).eraseIdxIfInBounds (i+1))) st'→
  Q (failedOf (setArr st' (m.toList.zipIdx.foldl (fun a x=>a.setIfInBounds (sa+k+x.2) x.1) (arrOf st')))).isNone (setArr st' (m.toList.zipIdx.foldl (fun a x=>a.setIfInBounds (sa+k+x.2) x.1) (arrOf st'))):=fun m st' hm hg=>by
  have hB':=hBn.sg hg
  have hf:(failedOf (setArr st' (m.toList.zipIdx.foldl (fun a x=>a.setIfInBounds (sa+k+x.2) x.1) (arrOf st')))).isNone=true:=by
   show(failedOf st').isNone=true
   erw[hB'.failed];rfl
  erw[hf]
  refine h _ (hB'.setArr ?_) ?_ ?_
  ·have ea:arrOf st'=arrOf st:=hg.arr
   erw[ea]
   exact xj (by exact Jz hkn) (by omega) (by exact Jy hle hk2 hsz he) hm
  ·show cP (pendingOf st').toList 0 e
   erw[hg.pend];exact hr'
  ·show(pendingOf st').size+1=_
   erw[hg.pend];exact hsz'
 refine ad (fun U=>?_) (fun U=>?_)
 ·refine wpS_bind (rv hBn.kind (hk.extract _ _) (hk.extract _ _) z1 z2 fun m st' hm hg=>?_)
  exact wpS_bind (wpS_modify (wpS_bind (wpS_get (wpS_pure (fin m st' hm hg)))))
 ·refine wpS_bind (rx hBn.kind (hk.extract _ _) (hk.extract _ _) z1 z2 fun m st' hm hg=>?_)
  exact wpS_bind (wpS_modify (wpS_bind (wpS_get (wpS_pure (fin m st' hm hg)))))
end
section
variable {prog:Program} {w:World} {A:Around} {E:Value→Shared→Prop} {s:Shared} {a₀:Array Keyed}
theorem SP.setP {st:SortSt} (h:SP a₀ st) (p:Array (Nat×Nat×Nat)):SP a₀ (setPending st p):=⟨h.perm,h.kind,h.failed⟩
theorem oU {st:SortSt} {Q:Unit→SortSt→Prop} (h0:IK a₀) (hB:SP a₀ st) (hp:pendingOf st=#[]) (h:∀st',SP a₀ st'→Q () st'):wpS (model prog w) A E s sortRuns' Q st:=by
 delta prog w A E s a₀ st Q h0 hB hp h at ⊢;have hsz:=hB.size
 unfold sortRuns';refine wpS_bind (wpS_get ?_)
 refine wpS_bind (wpS_mono (wpS_forRange (I:=fun i c st'=>∃lo,c=(none,lo)∧lo≤a₀.size∧SP a₀ st'∧cP (pendingOf st').toList 0 lo)
  (Q:=fun c st'=>∃lo,c=(none,lo)∧lo≤a₀.size∧SP a₀ st'∧cP (pendingOf st').toList 0 lo) ?step (fun c st' h=>h) ⟨0,rfl,Nat.zero_le _,hB,by erw[hp];rfl⟩) ?post)
 case step=>
  delta i c st1;intro _;intro _;intro z242;injection z242 with lo rfl hlo hB1 hr1;refine ad (fun U=>wpS_pure ⟨lo,rfl,hlo,hB1,hr1⟩) ?_;delta hlt;replace hlt:¬(lo≥(arrOf st).size):=hlt;refine wpS_bind (ti (lo:=lo) (nrem:=(arrOf st).size-lo) h0 (by exact Jx hsz hlt) (by exact Jw hlt) hB1 ?_);delta n st2 hn1 hn2 hB2 hp2;have hr2:cP (pendingOf st2).toList 0 lo:=by erw[hp2];exact hr1
  refine ad (fun hmr=>?_) (fun U=>?_)
  ·refine wpS_bind (wpS_lift (wpAny_rule ⟨rfl,?_⟩))
   have hf1:1≤min ((arrOf st).size-lo) (minRun' (arrOf st).size (arrOf st).size 0):=by
    replace hmr:n<minRun' (arrOf st).size (arrOf st).size 0:=hmr;exact Jv hn1 hmr hn2 hlt
   have hf2:lo+min ((arrOf st).size-lo) (minRun' (arrOf st).size (arrOf st).size 0)≤a₀.size:=by exact Ju hn1 hsz hn2
   refine wpS_bind (rz (n:=min ((arrOf st).size-lo) (minRun' (arrOf st).size (arrOf st).size 0)) h0 hf2 hB2 ?_);delta st3 hB3 hp3;have hr3:cP (pendingOf st3).toList 0 lo:=by erw[hp3];exact hr2
   refine ad (fun hh=>absurd hh (by simp)) ?_;intro _;refine wpS_bind (wpS_get ?_);generalize hb:(pendingOf st3).back?=o;cases o with
   | none=>
    refine wpS_bind (wpS_modify (wpS_pure ⟨lo+(min ((arrOf st).size-lo) (minRun' (arrOf st).size (arrOf st).size 0)),rfl,hf2,hB3.setP _,?_⟩));show cP ((pendingOf st3).push (lo,min ((arrOf st).size-lo) (minRun' (arrOf st).size (arrOf st).size 0),0)).toList 0 _
    erw[Array.toList_push];exact hr3.push hf1
   | some x=>
    delta x at *;obtain⟨s1,n1,pw1⟩:=x;delta s1 n1 pw1 at *;refine wpS_bind (wpS_mono (wpS_forRange (I:=fun i c st'=>c=(none,())∧SP a₀ st'∧cP (pendingOf st').toList 0 lo) (Q:=fun c st'=>c=(none,())∧SP a₀ st'∧cP (pendingOf st').toList 0 lo) ?_ (fun c st' h=>h) ⟨rfl,hB3,hr3⟩) ?_)
    ·delta j c st4;intro _;intro _;intro z248;injection z248 with rfl hB4 hr4;refine wpS_bind (wpS_get ?_);by_cases h2:(pendingOf st4).size>1
     ·have hx:(pendingOf st4)[(pendingOf st4).size-2]?=some ((pendingOf st4)[(pendingOf st4).size-2]'(by exact zd h2)):=by simp
      generalize (pendingOf st4)[(pendingOf st4).size-2]'(by exact zd h2)=x at hx;obtain⟨x1,x2,x3⟩:=x;delta x1 x2 x3 at *;dsimp only;erw[if_pos h2,hx];refine ad (fun U=>wpS_pure ⟨rfl,hB4,hr4⟩) ?_;intro _;refine wpS_bind (hV (i:=(pendingOf st4).size-2) h0 hB4 (by exact Dc h2) hr4 hlo ?_);delta st5 hB5 hr5;intro _;exact ad (fun hh=>absurd hh (by simp)) (fun U=>wpS_pure ⟨rfl,hB5,hr5⟩)
     ·dsimp only;erw[if_neg h2];exact wpS_pure ⟨rfl,hB4,hr4⟩
    ·delta c st4;intro z252;injection z252 with rfl hB4 hr4;refine wpS_bind (wpS_modify ?_);refine wpS_bind (wpS_modify (wpS_pure ⟨lo+(min ((arrOf st).size-lo) (minRun' (arrOf st).size (arrOf st).size 0)),rfl,hf2,(hB4.setP _).setP _,?_⟩));show cP (((pendingOf st4).modify ((pendingOf st4).size-1) _).push (lo,min ((arrOf st).size-lo) (minRun' (arrOf st).size (arrOf st).size 0),0)).toList 0 _
     erw[Array.toList_push,Array.toList_modify];refine cP.push ?_ hf1;exact hr4.last _ _
  ·have hf2:lo+n≤a₀.size:=by exact Jt hn1 hn2 hsz
   refine wpS_bind (wpS_get ?_);generalize hb:(pendingOf st2).back?=o;cases o with
   | none=>
    refine wpS_bind (wpS_modify (wpS_pure ⟨lo+(n),rfl,hf2,hB2.setP _,?_⟩));show cP ((pendingOf st2).push (lo,n,0)).toList 0 _
    erw[Array.toList_push];exact hr2.push hn1
   | some x=>
    delta x at *;obtain⟨s1,n1,pw1⟩:=x;delta s1 n1 pw1 at *;refine wpS_bind (wpS_mono (wpS_forRange (I:=fun i c st'=>c=(none,())∧SP a₀ st'∧cP (pendingOf st').toList 0 lo) (Q:=fun c st'=>c=(none,())∧SP a₀ st'∧cP (pendingOf st').toList 0 lo) ?_ (fun c st' h=>h) ⟨rfl,hB2,hr2⟩) ?_)
    ·delta j c st4;intro _;intro _;intro z256;injection z256 with rfl hB4 hr4;refine wpS_bind (wpS_get ?_);by_cases h2:(pendingOf st4).size>1
     ·have hx:(pendingOf st4)[(pendingOf st4).size-2]?=some ((pendingOf st4)[(pendingOf st4).size-2]'(by exact zd h2)):=by simp
      generalize (pendingOf st4)[(pendingOf st4).size-2]'(by exact zd h2)=x at hx;obtain⟨x1,x2,x3⟩:=x;delta x1 x2 x3 at *;dsimp only;erw[if_pos h2,hx];refine ad (fun U=>wpS_pure ⟨rfl,hB4,hr4⟩) ?_;intro _;refine wpS_bind (hV (i:=(pendingOf st4).size-2) h0 hB4 (by exact Dc h2) hr4 hlo ?_);delta st5 hB5 hr5;intro _;exact ad (fun hh=>absurd hh (by simp)) (fun U=>wpS_pure ⟨rfl,hB5,hr5⟩)
     ·dsimp only;erw[if_neg h2];exact wpS_pure ⟨rfl,hB4,hr4⟩
    ·delta c st4;intro z260;injection z260 with rfl hB4 hr4;refine wpS_bind (wpS_modify ?_);refine wpS_bind (wpS_modify (wpS_pure ⟨lo+(n),rfl,hf2,(hB4.setP _).setP _,?_⟩));show cP (((pendingOf st4).modify ((pendingOf st4).size-1) _).push (lo,n,0)).toList 0 _
     erw[Array.toList_push,Array.toList_modify];refine cP.push ?_ hn1;exact hr4.last _ _
 case post=>
  delta c st1;intro z263;injection z263 with lo rfl hlo hB1 hr1;refine wpS_bind (wpS_mono (wpS_forRange (I:=fun i c st'=>c=(none,())∧SP a₀ st'∧cP (pendingOf st').toList 0 lo) (Q:=fun c st'=>c=(none,())∧SP a₀ st') ?step2 (fun c st' h=>⟨h.1,h.2.1⟩) ⟨rfl,hB1,hr1⟩) ?post2);case post2=>rintro c st2 ⟨rfl,hB2⟩;exact wpS_pure (h _ hB2)
  case step2=>
   delta j c st2;intro _;intro _;intro z268;injection z268 with rfl hB2 hr2;refine wpS_bind (wpS_get ?_);refine ad (fun U=>wpS_pure ⟨rfl,hB2⟩) ?_;delta h2;replace h2:¬((pendingOf st2).size≤1):=h2;refine wpS_bind (hV h0 hB2 ?hi hr2 hlo fun st5 hB5 hr5 U=>?goon)
   case hi=>
    have key:∀(c:Prop) [Decidable c],(if c then(pendingOf st2).size-2-1 else(pendingOf st2).size-2)+1<(pendingOf st2).size:=by
     intro c _;split<;>(first|exact Js h2|exact Jr h2)
    exact key _
   case goon=>exact ad (fun hh=>absurd hh (by simp)) (fun U=>wpS_pure ⟨rfl,hB5,hr5⟩)
end
section
variable {prog:Program} {w:World} {A:Around} {E:Value→Shared→Prop} {s:Shared}
theorem xz {vs:List Value} {ns:List Int} (hI:IntsAre vs ns) {xs:Array Keyed} (hp:xs.Perm (pairsOf vs)):∃ns',IntsAre (xs.map (fun U=>U.2)).toList ns'∧ns'.Perm ns:=by
 have hl:xs.toList.Perm (vs.zip vs):=by erw[←pairsOf_toList];exact Array.perm_iff_toList_perm.mp hp
 have h2:(xs.toList.map (fun U=>U.2)).Perm vs:=by
  have:=hl.map (fun U=>U.2)
  rwa[List.map_snd_zip (Nat.le_refl _)]at this
 refine⟨((xs.map (fun U=>U.2)).toList).map numOf,intsAre_map _ (fun v hv=>?_),?_⟩
 ·rw[Array.toList_map]at hv;exact hI.all v (h2.mem_iff.mp hv)
 ·erw[Array.toList_map];have:=h2.map numOf
  rwa[hI.nums]at this
theorem xP {vs:List Value} {ns:List Int} (hI:IntsAre vs ns):IK (pairsOf vs):=fun p hp=>by
 have:p∈(pairsOf vs).toList:=by simpa using hp
 rw[pairsOf_toList]at this;exact hI.all _ (mem_zip_self this).2
theorem pk {a:Addr} {vs:List Value} {ns:List Int} {n:Nat} {P:Fin→Shared→Prop} (ho:s.heap.get? a=some (seqObj "list" vs.toArray n)) (hI:IntsAre vs ns) (hz:vs.length≤100000)
 (h:∀(out:Array Value) (ns':List Int),IntsAre out.toList ns'→ns'.Perm ns→(vs.length<64→ns'.Pairwise (·≤·))→P (.done (.ret .none)) { s with heap:=sortedHeap s.heap a vs out }):
 wpAny (model prog w) A (Builtin.«list.sort» ⟨[.ref a],[]⟩) P E s:=by
 delta prog w A E s a vs ns n P ho hI hz h at ⊢
 by_cases h64:vs.length<64
 ·exact list_sort_tree ho hI h64 fun out ns' h1 h2 h3=>h out ns' h1 h2 fun U=>h3
 erw[list_sort_plain]
 have ha:a<s.heap.objs.size:=Heap.lt_size ho
 have hsl:vs.length≤sizeLine:=by erw[sizeLine_eq];omega
 refine wpAny_bind (listItems_at ho rfl ?_)
 refine wpAny_bind (listUpdate_at ho rfl ?_ (by simpa using hsl))
 obtain⟨e1,ho1⟩:∃e1,(s.heap.update a (Obj.mapSeq fun U=>#[])).get? a=some (seqObj "list" #[] e1):=⟨_,get?_update_seq ho (fun U=>#[])⟩
 refine wpAny_bind (seqEpoch_at ho1 rfl ?_)
 refine wpAny_bind (wpAny_newTuple ?_ (by simpa using hsl))
 refine wpAny_bind (wpAny_newList ?_)
 refine wpAny_holding ?_
 have ho6:(((s.heap.update a (Obj.mapSeq fun U=>#[])).push (seqObj "tuple" vs.toArray 0)).push (seqObj "list" #[] 0)).get? a=some (seqObj "list" #[] e1):=by
  erw[Heap.get?_push_ne _ _ _ (by erw[size_push',Heap.size_update];exact Nat.ne_of_lt (Nat.lt_succ_of_lt ha)),Heap.get?_push_ne _ _ _ (by erw[Heap.size_update];exact Nat.ne_of_lt ha)]
  exact ho1
 show wpAny (model prog w) A _ P E { s with heap:=((s.heap.update a (Obj.mapSeq fun U=>#[])).push (seqObj "tuple" vs.toArray 0)).push (seqObj "list" #[] 0) }
 dsimp only
 have hsz:vs.toArray.size=vs.length:=by simp
 erw[if_neg (by exact Db hsz h64),if_neg (by exact Db hsz h64)]
 obtain⟨v₁,v₂,rest,rfl⟩:∃v₁ v₂ rest,vs=v₁::v₂::rest:=by
  match vs,h64 with
  | [],h2=>simp at h2
  | [_],h2=>simp at h2
  | v₁::v₂::rest,_=>exact⟨v₁,v₂,rest,rfl⟩
 erw[keyKind_ints hI]
 refine wpAny_bind (wpAny_pure ?_)
 refine wpAny_bind (wpAny_mono (oU (a₀:=pairsOf (v₁::v₂::rest)) (st:=SortSt.mk' oneType' ((v₁::v₂::rest).toArray.zip (v₁::v₂::rest).toArray) #[] 7 none)
  (Q:=fun U st'=>SP (pairsOf (v₁::v₂::rest)) st') (xP hI) ⟨Array.Perm.refl _,rfl,rfl⟩ rfl fun st' a1=>a1) ?_ fun U U e=>e)
 rintro⟨⟨⟩,st'⟩ s' ⟨rfl,hB⟩
 dsimp only
 refine wpAny_bind (seqEpoch_at ho6 rfl ?_)
 refine wpAny_bind (listUpdate_at ho6 rfl ?_ (hsz2:=by refine Nat.le_trans (Nat.le_of_eq ((Array.size_map ..).trans (hB.perm.size_eq.trans (pairsOf_size _)))) (Nat.le_succ_of_le hsl)))
 erw[hB.failed]
 simp only[bne_self_eq_false,Bool.false_eq_true,if_false]
 obtain⟨ns',h1,h2⟩:=xz hI hB.perm
 exact wpAny_pure (h _ ns' h1 h2 fun q=>absurd q h64)
end
section
variable {n:Nat} {σ:aj} {Q:V→aj→Prop}
theorem oB {prog:Program} {w:World} {A:Around} {s:Shared} {x:Value} {C:List Value→Prop} {G:List Value→Array Value→Prop} {Q:Value→Shared→Prop}
 (hcol:∀R:List Value→Shared→Prop,(∀h' tk vs,(∀b o,s.heap.get? b=some o→h'.get? b=some o)→C vs→R vs { s with heap:=h',toks:=tk })→wpAny (model prog w) A.in1 (collect x) R ft s)
 (hz:∀vs,C vs→vs.length≤100000)
 (hsort:∀vs,C vs→∀(A:Around) (E:Value→Shared→Prop) (s:Shared) (D:Addr) (P:Fin→Shared→Prop),s.heap.get? D=some (seqObj "list" vs.toArray 0)→(∀out,G vs out→P (.done (.ret .none)) { s with heap:=sortedHeap s.heap D vs out })→wpAny (model prog w) A (Builtin.«list.sort» ⟨[.ref D],[]⟩) P E s)
 (h:∀(h':Heap) tk vs out,(∀b o,s.heap.get? b=some o→h'.get? b=some o)→C vs→G vs out→∀(h'':Heap) e,(∀b o,h'.get? b=some o→h''.get? b=some o)→h''.get? h'.objs.size=some (seqObj "list" out e)→Q (.ref h'.objs.size) { s with heap:=h'',toks:=tk }):
 wpAny (model prog w) A (call (.builtin "sorted") [x]) Q ft s:=by
 refine call_function_entry kind_sorted plain_sorted entry_sorted (args_sorted1 _) ?_
 unfold Builtin.«sorted»
 refine wpAny_bind (m:=checkCount "sorted" 1 1 _) (wpAny_pure ?_)
 refine wpAny_bind (dN (hcol _ fun h' tk vs hk hc=>?_))
 have hl:=hz vs hc
 refine wpAny_bind (wpAny_newList ?_ (by erw[sizeLine_eq];omega))
 have hoL:(h'.push (seqObj "list" vs.toArray 0)).get? h'.objs.size=some (seqObj "list" vs.toArray 0):=Heap.get?_push_size _ rfl
 refine wpAny_bind (wpAny_holding (wpAny_call_entry slot_list_sort ⟨_,hoL,rfl⟩ entry_list_sort (hsort vs hc _ _ { s with heap:=h'.push (seqObj "list" vs.toArray 0),toks:=tk } _ _ hoL fun out hG=>⟨_,rfl,?_⟩) (args_list_sort _)))
 refine wpAny_pure ⟨_,rfl,?_⟩
 obtain⟨e,he⟩:=sortedHeap_at (out:=out) hoL
 refine h h' tk vs out hk hc hG _ e (fun b o e1=>?_) he
 have hb:=Heap.lt_size e1
 erw[sortedHeap_old (Nat.ne_of_lt hb) (by erw[size_push'];exact Nat.lt_succ_of_lt hb),Heap.get?_push_ne _ _ _ (Nat.ne_of_lt hb)]
 exact e1
theorem cf.ints {B:aS} {us:List Int} {vs:List Value} (h:cf B (us.map V.int) vs):IntsAre vs us:=by
 induction us generalizing vs with
 | nil=>injection h;exact .nil
 | cons u us ih=>injection h with a b;injection a;exact .cons _ _ (ih b)
theorem cf.strs {B:aS} {us:List Str} {vs:List Value} (h:cf B (us.map V.str) vs):StrsAre vs us:=by
 induction us generalizing vs with
 | nil=>injection h;exact .nil
 | cons u us ih=>injection h with a b;injection a;exact .cons _ _ (ih b)
theorem cf.ofInts {B:aS} {vs:List Value} {us:List Int} (h:IntsAre vs us):cf B (us.map V.int) vs:=by
 induction h with
 | nil=>exact .nil
 | cons n t r ih=>exact .cons (.int _ _) ih
theorem cf.ofStrs {B:aS} {vs:List Value} {us:List Str} (h:StrsAre vs us):cf B (us.map V.str) vs:=by
 induction h with
 | nil=>exact .nil
 | cons n t r ih=>exact .cons (.str _ _) ih
theorem nR {vs:List Value} {us:List Int} (h:IntsAre vs us):vs.length=us.length:=by
 induction h with
 | nil=>rfl
 | cons n t r ih=>exact congrArg (·+1) ih
theorem kN {vs:List Value} {us:List Str} (h:StrsAre vs us):vs.length=us.length:=by
 induction h with
 | nil=>rfl
 | cons n t r ih=>exact congrArg (·+1) ih
def yp (σ:aj) (l:V) (C:List Value→Prop):Prop:=
 ∀A B P s x (R:List Value→Shared→Prop),A.handled=none→aK B P σ s→VR B l x→(∀h' tk vs,(∀b o,s.heap.get? b=some o→h'.get? b=some o)→C vs→R vs { s with heap:=h',toks:=tk })→wpAny S.M A (collect x) R ft s
theorem gW {l:V} {us:List V} {C:List Value→Prop} (hl:aM σ l (.lst us)) (hz:us.length≤100000) (hC:∀B vs,cf B us vs→C vs):yp σ l C:=fun A B P s x R hA I hx k=>by
 obtain⟨a1,o1,rfl,e1,c1⟩:=I.view hl hx;obtain⟨i1,m1,rfl,l1,r1⟩:=c1.isList e1;have z1:=r1.length
 refine collect_list (vs:=i1.toList) (by simpa using l1) (k _ s.toks _ (fun b o e=>?_) (hC _ _ r1)) (by erw[sizeLine_eq,←z1];omega);erw[Heap.get?_update_ne _ _ _ _ (Nat.ne_of_lt (Heap.lt_size e))];exact Heap.get?_push_of_some _ e
theorem uR {prog:Program} {w:World} {K:Type} [DecidableEq K] {knd:PySem.KeyKind prog w K} {kvs:List (K×Value)} {acc:Array Value} {D:List K→List Value→Prop} (hnil:D [] []) (hcons:∀k v ks vs,knd.is k v=true→D ks vs→D (k::ks) (v::vs))
 (h:ItemsOf (fun i v=>∃k x,kvs[i]?=some (k,x)∧knd.is k v=true) acc kvs.length):D (kvs.map (fun U=>U.1)) acc.toList:=by
 obtain⟨hl,h⟩:=h
 have gen:∀(kvs:List (K×Value)) (l:List Value),l.length=kvs.length→(∀(j:Nat) v,l[j]?=some v→∃k x,kvs[j]?=some (k,x)∧knd.is k v=true)→D (kvs.map (fun U=>U.1)) l:=by
  intro kvs;induction kvs with
  | nil=>intro l hl _;simp at hl;subst hl;exact hnil
  | cons p r ih=>
   intro l hl hj;cases l with
   | nil=>simp at hl
   | cons v l=>
    obtain⟨k,x,e,hk⟩:=hj 0 v rfl;simp at e;subst e;exact hcons _ _ _ _ hk (ih l (by simpa using hl) fun j u hu=>hj (j+1) u hu)
 exact gen kvs acc.toList (by simpa using hl) fun j v hv=>h j v (by simpa using hv)
theorem l0 {l:V} {kvs:List (Int×V)} (hl:aM σ l (.dI kvs)) (hz:kvs.length≤100000):yp σ l (fun vs=>IntsAre vs (kvs.map (fun U=>U.1))):=fun A B P s x R hA I hx k=>by
 obtain⟨a1,o1,rfl,e1,ps,D,rs⟩:=I.view hl hx;have ns:=I.notSys hl (fun U h=>by injection h) hx
 obtain⟨ep,hat⟩:=(D.at _ e1).dictAt;have hlen:=rs.length
 refine kdu_collect (kdl_dict (knd:=intKind S.prog S.w) (kvs:=ps) (ep:=ep) ns) hA hat (by erw[sizeLine_eq,←hlen];omega) fun h' tk acc hk hacc=>k h' tk _ hk ?_
 have:=uR (D:=fun ks vs=>IntsAre vs ks) .nil (fun k v ks vs hk hd=>by
  cases v<;>simp[intKind,Value.isInt] at hk
  subst hk;exact .cons _ _ hd) hacc
 rwa[rs.keys.symm] at this
theorem zN {l:V} {kvs:List (Str×V)} (hl:aM σ l (.dS kvs)) (hz:kvs.length≤100000):yp σ l (fun vs=>StrsAre vs (kvs.map (fun U=>U.1))):=fun A B P s x R hA I hx k=>by
 obtain⟨a1,o1,rfl,e1,ps,D,rs⟩:=I.view hl hx;have ns:=I.notSys hl (fun U h=>by injection h) hx
 obtain⟨ep,hat⟩:=(D.at _ e1).dictAt;have hlen:=rs.length
 refine kdu_collect (kdl_dict (knd:=PySem.strKind S.prog S.w) (kvs:=ps) (ep:=ep) ns) hA hat (by erw[sizeLine_eq,←hlen];omega) fun h' tk acc hk hacc=>k h' tk _ hk ?_
 have:=uR (D:=fun ks vs=>StrsAre vs ks) .nil (fun k v ks vs hk hd=>by
  cases v<;>simp[PySem.strKind,Value.isStrOf] at hk
  subst hk;exact .cons _ _ hd) hacc
 rwa[rs.keys.symm] at this
theorem dH {l:V} {us:List Int} (hl:yp σ l (fun vs=>IntsAre vs us)) (hz:us.length≤100000) (q:∀(us':List Int) a,us'.Perm us→(us.length<64→us'.Pairwise (·≤·))→Q (.loc a) ((a,.lst (us'.map V.int))::σ)):
 TL n (fun xs=>PySem.call (.builtin "sorted") xs) [l] σ Q:=fun A B P s xs R hA I hx k=>by
 injection hx with h1 h2
 next=>
  injection h2
  refine oB (C:=fun vs=>IntsAre vs us) (G:=fun vs out=>∃us',IntsAre out.toList us'∧us'.Perm us∧(us.length<64→us'.Pairwise (·≤·))) (fun R' k'=>hl A.in1 B P s _ R' hA.hand I h1 k') (fun vs hv=>by erw[nR hv];omega)
   (fun vs hv A E s D P ho hk=>pk ho hv (by erw[nR hv];omega) fun out ns' a1 a2 a3=>hk out ⟨ns',a1,a2,by erw[←nR hv];exact a3⟩) ?_
  intro h' tk vs out hk hc ⟨us',g1,g2,g3⟩ h'' e hk2 he;have I1:=I.keeps (t:=tk) (d:=s.drawn) hk
  have fr:=I1.fresh
  exact k _ _ _ _ B (q us' _ g2 g3) (bh.refl _) (I1.sto_put (t:=tk) (c:=.lst (us'.map V.int)) hk2 fr.1 fr.2.1 fr.2.2 I1.freshS he ⟨_,_,rfl,cf.ofInts g1⟩) (.loc _)
theorem wL {l:V} {us:List Str} (hl:yp σ l (fun vs=>∃us',StrsAre vs us'∧us'.Perm us)) (hz:us.length<64) (q:∀(us':List Str) a,us'.Perm us→sortedS us'=true→Q (.loc a) ((a,.lst (us'.map V.str))::σ)):
 TL n (fun xs=>PySem.call (.builtin "sorted") xs) [l] σ Q:=fun A B P s xs R hA I hx k=>by
 injection hx with h1 h2
 next=>
  injection h2
  refine oB (C:=fun vs=>∃us',StrsAre vs us'∧us'.Perm us) (G:=fun vs out=>∃us',StrsAre out.toList us'∧us'.Perm us∧sortedS us'=true) (fun R' k'=>hl A.in1 B P s _ R' hA.hand I h1 k')
   (fun vs hv=>by obtain⟨us',h1,h2⟩:=hv;erw[kN h1,h2.length_eq];exact xr hz)
   (fun vs hv A E s D P ho hk=>by
    obtain⟨us1,hS,hp1⟩:=hv;refine list_sort_treeK strKind_oneLt ho hS.keysOf (fun v₁ v₂ rest e=>keyKind_strs (by erw[←e];exact hS)) (by erw[kN hS,hp1.length_eq];exact hz) fun st' hp hs=>?_
    obtain⟨ss',g1,g2,g3⟩:=sorted_out_str hS hp hs
    exact hk _ ⟨ss',g1,g2.trans hp1,g3⟩) ?_
  intro h' tk vs out hk hc ⟨us',g1,g2,g3⟩ h'' e hk2 he;have I1:=I.keeps (t:=tk) (d:=s.drawn) hk
  have fr:=I1.fresh
  exact k _ _ _ _ B (q us' _ g2 g3) (bh.refl _) (I1.sto_put (t:=tk) (c:=.lst (us'.map V.str)) hk2 fr.1 fr.2.1 fr.2.2 I1.freshS he ⟨_,_,rfl,cf.ofStrs g1⟩) (.loc _)
end
section
variable {n:Nat} {η:aI} {σ:aj}
theorem TA.mono {t:Expr} {v:V} {Q Q':aI→aj→Prop} (h:TA n t v η σ Q) (k:∀η' σ',Q η' σ'→Q' η' σ'):TA n t v η σ Q':=fun A B P env s x R hA I hx kk=>h A B P env s x R hA I hx fun η' σ' s' B' q=>kk η' σ' s' B' (k _ _ q)
theorem TB.mono {e:Expr} {Q Q':Bool→aj→Prop} (h:TB n e η σ Q) (k:∀v σ',Q v σ'→Q' v σ'):TB n e η σ Q':=fun A B P env s R hA I kk=>h A B P env s R hA I fun v σ' s' B' q=>kk v σ' s' B' (k _ _ q)
theorem BG.mono:∀{ifs:List Expr} {Q Q':Bool→aj→Prop},BG n ifs η σ Q→(∀v σ',Q v σ'→Q' v σ')→BG n ifs η σ Q'
 | [],_,_,h,k=>k _ _ h
 | [_],_,_,h,k=>TB.mono h k
theorem cB.pure {α:Type} {elt target iter:Expr} {ifs:List Expr} {ηk:aI} {G:List V→aj→Prop} (us:List α) (f g:α→V) (p:α→Bool)
 (h:TE n iter η σ fun l σ₁=>oJ l∧iC l (us.map f)∧σ₁=σ) (hz:us.length≤100000)
 (turn:∀(i:Nat) u,us[i]?=some u→TA n target (f u) ηk σ fun η₂ σ₂=>dP η₂ ηk∧BG n ifs η₂ σ₂ fun b σ₃=>b=p u∧if b then TE n elt η₂ σ₃ (fun w σ₄=>w=g u∧σ₄=σ)else σ₃=σ)
 (fin:G ((us.filter p).map g) σ):cB n elt target iter ifs ηk η σ G:=by
 refine⟨fun i out σ'=>σ'=σ∧out=((us.take i).filter p).map g,h.mono fun l σ₁ h=>?_⟩
 obtain⟨h1,h2,rfl⟩:=h
 refine⟨h1,_,h2,by simpa using hz,⟨rfl,by simp⟩,?_,?_⟩
 ·rintro i v out σ' hv ⟨rfl,rfl⟩
  rw[List.getElem?_map,Option.map_eq_some_iff]at hv
  obtain⟨u,hu,rfl⟩:=hv
  refine(turn i u hu).mono fun η₂ σ₂ h=>⟨h.1,h.2.mono fun b σ₃ h=>?_⟩
  obtain⟨rfl,h⟩:=h
  have hlt:i<us.length:=by rw[List.getElem?_eq_some_iff]at hu;exact hu.1
  have ht:us.take (i+1)=us.take i++[u]:=by erw[List.take_add_one,hu];rfl
  cases hp:p u with
  | true=>
   rw[hp]at h
   simp only[if_true]at h ⊢
   refine h.mono fun w σ₄ h=>⟨h.2,?_⟩
   erw[ht,List.filter_append,List.map_append,h.1]
   simp[hp]
  | false=>
   rw[hp]at h
   simp only[Bool.false_eq_true,if_false]at h ⊢
   refine⟨h,?_⟩
   erw[ht,List.filter_append,List.map_append]
   simp[hp]
 ·rintro out σ' ⟨rfl,rfl⟩
  erw[List.length_map,List.take_length]
  exact fin
theorem wz {K:Type} [DecidableEq K] {kvs:List (K×V)} {k:K} (h:k∉kvs.map (fun U=>U.1)):aB kvs k=none:=by
 induction kvs with
 | nil=>rfl
 | cons p r ih=>
  obtain⟨k',v⟩:=p;simp only[List.map_cons,List.mem_cons,not_or]at h;erw[b0,if_neg (fun e=>h.1 e.symm)];exact ih h.2
theorem ch {K:Type} [DecidableEq K] {kvs:List (K×V)} {k:K} {v:V} (h:k∉kvs.map (fun U=>U.1)):bj kvs k v=kvs++[(k,v)]:=by
 induction kvs with
 | nil=>rfl
 | cons p r ih=>
  obtain⟨k',u⟩:=p;simp only[List.map_cons,List.mem_cons,not_or]at h;erw[bn,if_neg (fun e=>h.1 e.symm),ih h.2];rfl
theorem gB {K:Type} [DecidableEq K] (kvs:List (K×V)) (k:K) (v:V):aB (bj kvs k v) k=some v:=by
 induction kvs with
 | nil=>simp[cw,bn,bJ,b0]
 | cons p r ih=>
  obtain⟨k',u⟩:=p;by_cases h:k'=k
  ·simp[cw,bn,bJ,b0,h]
  ·simp[cw,bn,bJ,b0,h,ih]
theorem j6 {K:Type} [DecidableEq K] (kvs:List (K×V)) {k k':K} (v:V) (h:k'≠k):aB (bj kvs k v) k'=aB kvs k':=by
 induction kvs with
 | nil=>simp[cw,bn,bJ,b0,Ne.symm h]
 | cons p r ih=>
  obtain⟨k'',u⟩:=p;by_cases h1:k''=k
  ·subst h1;simp[cw,bn,bJ,b0,Ne.symm h]
  ·by_cases h2:k''=k'
   ·subst h2;simp[cw,bn,bJ,b0,h]
   ·simp[cw,bn,bJ,b0,h1,h2,ih]
theorem cS {K:Type} [DecidableEq K] {kvs:List (K×V)} (hn:(kvs.map (fun U=>U.1)).Nodup) {k:K} {v:V} (h:(k,v)∈kvs):aB kvs k=some v:=by
 induction kvs with
 | nil=>injection h
 | cons p r ih=>
  obtain⟨k',u⟩:=p;rw[List.map_cons,List.nodup_cons]at hn;rcases List.mem_cons.mp h with e|h
  ·cases e;simp[bJ,b0]
  ·have:k'≠k:=fun e=>hn.1 (List.mem_map.mpr ⟨_,h,e.symm⟩)
   simp[bJ,b0,this,ih hn.2 h]
theorem m0 {K:Type} [DecidableEq K] {kvs:List (K×V)} {k:K}:(aB kvs k).isSome=decide (k∈kvs.map (fun U=>U.1)):=by
 induction kvs with
 | nil=>simp[bJ,b0]
 | cons p r ih=>
  obtain⟨k',u⟩:=p;by_cases h:k'=k
  ·simp[bJ,b0,h]
  ·simp only[bJ,b0,if_neg h,ih,List.map_cons,List.mem_cons];congr 1;simp[Ne.symm h]
theorem jn {K:Type} [DecidableEq K] (kvs:List (K×V)) (k:K) (v:V):(bj kvs k v).map (fun U=>U.1)=if k∈kvs.map (fun U=>U.1)then kvs.map (fun U=>U.1)else kvs.map (fun U=>U.1)++[k]:=by
 induction kvs with
 | nil=>simp[cw,bn]
 | cons p r ih=>
  obtain⟨k',u⟩:=p;by_cases h:k'=k
  ·simp[cw,bn,h]
  ·simp only[cw,bn,if_neg h,List.map_cons,ih,List.mem_cons];by_cases h2:k∈r.map (fun U=>U.1)
   ·simp[h2]
   ·simp[h2,Ne.symm h]
set_option tactic.hygienic true in
theorem k6 {K:Type} [DecidableEq K] {kvs:List (K×V)} {k:K} {v:V} (h:(kvs.map (fun U=>U.1)).Nodup):((bj kvs k v).map (fun U=>U.1)).Nodup:=by
 erw[jn];split
 ·exact h
 ·rename_i hk;erw[List.nodup_append];exact⟨h,by simp,fun a ha b hb e=>by simp at hb;subst hb;subst e;exact hk ha⟩
end
section
variable {n:Nat} {η:aI} {σ:aj} {Q:Fl→aI→aj→Prop}
theorem sH {B B':aS} (H:bh B B'):∀{f:Fl} {x:Flow},L4 B f x→L4 B' f x:=fun {f x} h=>by
 cases f<;>cases x<;>first|trivial|exact h.elim|exact VR.mono H h
theorem dl.conseq {sts:List Stmt} {Q₁:Fl→aI→aj→Prop} (h:dl n sts η σ Q₁) (k:∀f η' σ',Q₁ f η' σ'→∃η₂ σ₂,aC η' σ' η₂ σ₂∧Q f η₂ σ₂):dl n sts η σ Q:=fun A B P env s R hA I kk=>
 h A B P env s R hA I fun f η' σ' x s' B' q H I' hf=>by
  obtain⟨η₂,σ₂,sh,q⟩:=k _ _ _ q;obtain⟨B2,H2,I2⟩:=sh _ _ _ _ I';exact kk f η₂ σ₂ x s' B2 q (H.trans H2) I2 (sH H2 hf)
theorem TS.conseq {st:Stmt} {Q₁:Fl→aI→aj→Prop} (h:TS n st η σ Q₁) (k:∀f η' σ',Q₁ f η' σ'→∃η₂ σ₂,aC η' σ' η₂ σ₂∧Q f η₂ σ₂):TS n st η σ Q:=fun A B P env s R hA I kk=>
 h A B P env s R hA I fun f η' σ' x s' B' q H I' hf=>by
  obtain⟨η₂,σ₂,sh,q⟩:=k _ _ _ q;obtain⟨B2,H2,I2⟩:=sh _ _ _ _ I';exact kk f η₂ σ₂ x s' B2 q (H.trans H2) I2 (sH H2 hf)
def BF (Q:Fl→aI→aj→Prop) (η:aI) (J:aj→Prop):Fl→aI→aj→Prop
 | .next,η',σ=>dP η' η∧J σ
 | .cont,η',σ=>dP η' η∧J σ
 | .brk,η',σ=>Q .next η' σ
 | .ret v,η',σ=>Q (.ret v) η' σ
theorem aO {target iter:Expr} {body:List Stmt} {pos:Pos} (J:Nat→aj→Prop)
 (h:TE n iter η σ fun l σ₁=>oJ l∧∃vs,iC l vs∧J 0 σ₁∧
  (∀i v σ',vs[i]?=some v→J i σ'→TA n target v η σ' fun η₂ σ₂=>dl n body η₂ σ₂ (BF Q η (J (i+1))))∧(∀σ',J vs.length σ'→Q .next η σ'))
 (hs:autoParam (∀env x,foldedSetIterable iter env x=pure x) tI):TS n (.For target iter body [] pos) η σ Q:=by
 delta n η σ Q target iter body pos J h hs at ⊢;refine qo (fun i η' σ'=>η'=η∧J i σ') (h.mono fun l σ₁ h=>?_) hs;obtain⟨h1,vs,h2,h3,h4,h5⟩:=h;refine⟨h1,vs,h2,⟨rfl,h3⟩,?_,fun η' σ' hj=>?_⟩
 ·rintro i v η' σ' hv ⟨rfl,hj⟩;refine(h4 i v σ' hv hj).mono fun η₂ σ₂ h=>h.conseq fun f η₃ σ₃ q=>?_
  cases f with
  | next=>exact⟨η',σ₃,aC.weak q.1,rfl,q.2⟩
  | cont=>exact⟨η',σ₃,aC.weak q.1,rfl,q.2⟩
  | brk=>exact⟨η₃,σ₃,aC.weak (dP.refl _),q⟩
  | ret v=>exact⟨η₃,σ₃,aC.weak (dP.refl _),q⟩
 ·obtain⟨rfl,hj⟩:=hj;exact h5 σ' hj
theorem mE {target iter:Expr} {body:List Stmt} {pos:Pos}
 (h:TE n iter η σ fun l σ₁=>oJ l∧∃vs,∃J:Nat→aj→Prop,iC l vs∧J 0 σ₁∧
  (∀i v σ',vs[i]?=some v→J i σ'→TA n target v η σ' fun η₂ σ₂=>dl n body η₂ σ₂ (BF Q η (J (i+1))))∧(∀σ',J vs.length σ'→Q .next η σ'))
 (hs:autoParam (∀env x,foldedSetIterable iter env x=pure x) tI):TS n (.For target iter body [] pos) η σ Q:=by
 delta n η σ Q target iter body pos h hs at ⊢;refine um (h.mono fun l σ₁ h=>?_) hs;obtain⟨h1,vs,J,h2,h3,h4,h5⟩:=h;refine⟨h1,vs,fun i η' σ'=>η'=η∧J i σ',h2,⟨rfl,h3⟩,?_,fun η' σ' hj=>?_⟩
 ·rintro i v η' σ' hv ⟨rfl,hj⟩;refine(h4 i v σ' hv hj).mono fun η₂ σ₂ h=>h.conseq fun f η₃ σ₃ q=>?_
  cases f with
  | next=>exact⟨η',σ₃,aC.weak q.1,rfl,q.2⟩
  | cont=>exact⟨η',σ₃,aC.weak q.1,rfl,q.2⟩
  | brk=>exact⟨η₃,σ₃,aC.weak (dP.refl _),q⟩
  | ret v=>exact⟨η₃,σ₃,aC.weak (dP.refl _),q⟩
 ·obtain⟨rfl,hj⟩:=hj;exact h5 σ' hj
def Lv (Q:Fl→aI→aj→Prop) (η:aI) (M:aj→Prop):Fl→aI→aj→Prop
 | .next,η',σ=>dP η' η∧M σ
 | f,η',σ=>Q f η' σ
theorem vD {st:Stmt} {rest:List Stmt} (M:aj→Prop) (h:TS n st η σ (Lv Q η M)) (h2:∀σ',M σ'→dl n rest η σ' Q):dl n (st::rest) η σ Q:=by
 refine bq (h.conseq fun f η' σ' q=>?_);cases f with
 | next=>exact⟨η,σ',aC.weak q.1,h2 _ q.2⟩
 | cont=>exact⟨η',σ',aC.weak (dP.refl _),q⟩
 | brk=>exact⟨η',σ',aC.weak (dP.refl _),q⟩
 | ret v=>exact⟨η',σ',aC.weak (dP.refl _),q⟩
end
theorem gx.at1 {p1:Str×Sl} {x:Str} {v:Sl} {η:aI}:gx (p1::(x,v)::η) x v:=.there .here
theorem bP.un1 {p1:Str×Sl} {x:Str} {v:V} {η:aI}:bP (p1::(x,.un)::η) x v (p1::(x,.val v)::η):=.there .un
theorem gx.at2 {p1 p2:Str×Sl} {x:Str} {v:Sl} {η:aI}:gx (p1::p2::(x,v)::η) x v:=.there (.there .here)
theorem bP.un2 {p1 p2:Str×Sl} {x:Str} {v:V} {η:aI}:bP (p1::p2::(x,.un)::η) x v (p1::p2::(x,.val v)::η):=.there (.there .un)
theorem bP.val2 {p1 p2:Str×Sl} {x:Str} {v:V} {u:V} {η:aI}:bP (p1::p2::(x,.val u)::η) x v (p1::p2::(x,.val v)::η):=.there (.there .val)
theorem gx.at3 {p1 p2 p3:Str×Sl} {x:Str} {v:Sl} {η:aI}:gx (p1::p2::p3::(x,v)::η) x v:=.there (.there (.there .here))
theorem bP.un3 {p1 p2 p3:Str×Sl} {x:Str} {v:V} {η:aI}:bP (p1::p2::p3::(x,.un)::η) x v (p1::p2::p3::(x,.val v)::η):=.there (.there (.there .un))
theorem gx.at4 {p1 p2 p3 p4:Str×Sl} {x:Str} {v:Sl} {η:aI}:gx (p1::p2::p3::p4::(x,v)::η) x v:=.there (.there (.there (.there .here)))
theorem bP.un4 {p1 p2 p3 p4:Str×Sl} {x:Str} {v:V} {η:aI}:bP (p1::p2::p3::p4::(x,.un)::η) x v (p1::p2::p3::p4::(x,.val v)::η):=.there (.there (.there (.there .un)))
theorem bP.val4 {p1 p2 p3 p4:Str×Sl} {x:Str} {v:V} {u:V} {η:aI}:bP (p1::p2::p3::p4::(x,.val u)::η) x v (p1::p2::p3::p4::(x,.val v)::η):=.there (.there (.there (.there .val)))
theorem gx.at5 {p1 p2 p3 p4 p5:Str×Sl} {x:Str} {v:Sl} {η:aI}:gx (p1::p2::p3::p4::p5::(x,v)::η) x v:=.there (.there (.there (.there (.there .here))))
theorem bP.un5 {p1 p2 p3 p4 p5:Str×Sl} {x:Str} {v:V} {η:aI}:bP (p1::p2::p3::p4::p5::(x,.un)::η) x v (p1::p2::p3::p4::p5::(x,.val v)::η):=.there (.there (.there (.there (.there .un))))
theorem gx.at6 {p1 p2 p3 p4 p5 p6:Str×Sl} {x:Str} {v:Sl} {η:aI}:gx (p1::p2::p3::p4::p5::p6::(x,v)::η) x v:=.there (.there (.there (.there (.there (.there .here)))))
theorem bP.un6 {p1 p2 p3 p4 p5 p6:Str×Sl} {x:Str} {v:V} {η:aI}:bP (p1::p2::p3::p4::p5::p6::(x,.un)::η) x v (p1::p2::p3::p4::p5::p6::(x,.val v)::η):=.there (.there (.there (.there (.there (.there .un)))))
theorem bP.val6 {p1 p2 p3 p4 p5 p6:Str×Sl} {x:Str} {v:V} {u:V} {η:aI}:bP (p1::p2::p3::p4::p5::p6::(x,.val u)::η) x v (p1::p2::p3::p4::p5::p6::(x,.val v)::η):=.there (.there (.there (.there (.there (.there .val)))))
theorem gx.at7 {p1 p2 p3 p4 p5 p6 p7:Str×Sl} {x:Str} {v:Sl} {η:aI}:gx (p1::p2::p3::p4::p5::p6::p7::(x,v)::η) x v:=.there (.there (.there (.there (.there (.there (.there .here))))))
theorem bP.un7 {p1 p2 p3 p4 p5 p6 p7:Str×Sl} {x:Str} {v:V} {η:aI}:bP (p1::p2::p3::p4::p5::p6::p7::(x,.un)::η) x v (p1::p2::p3::p4::p5::p6::p7::(x,.val v)::η):=.there (.there (.there (.there (.there (.there (.there .un))))))
theorem gx.th {p1 p2 p3 p4 p5 p6 p7 p8:Str×Sl} {x:Str} {v:Sl} {η:aI} (h:gx η x v):gx (p1::p2::p3::p4::p5::p6::p7::p8::η) x v:=.there (.there (.there (.there (.there (.there (.there (.there h)))))))
theorem bP.th {p1 p2 p3 p4 p5 p6 p7 p8:Str×Sl} {x:Str} {v:V} {η η':aI} (h:bP η x v η'):bP (p1::p2::p3::p4::p5::p6::p7::p8::η) x v (p1::p2::p3::p4::p5::p6::p7::p8::η'):=.there (.there (.there (.there (.there (.there (.there (.there h)))))))
def EV (η:aI) (σ:aj) (e:Expr) (v:V):Prop:=∀n,TE n e η σ fun v' σ'=>v'=v∧σ'=σ
def KU (η:aI) (σ:aj) (es:List Expr) (vs:List V):Prop:=∀n,rq n es η σ fun vs' σ'=>vs'=vs∧σ'=σ
section
variable {n:Nat} {η:aI} {σ:aj} {Q:V→aj→Prop}
theorem dJ {e:Expr} {v:V} (h:EV η σ e v) (q:Q v σ):TE n e η σ Q:=TE.mono (h n) fun U U z=>by erw[z.1,z.2];exact q
theorem rq.mono {es:List Expr} {Q Q':List V→aj→Prop} (h:rq n es η σ Q) (k:∀v σ',Q v σ'→Q' v σ'):rq n es η σ Q':=fun A B P env s pos R hA I kk=>h A B P env s pos R hA I fun v σ' x s' B' q=>kk v σ' x s' B' (k _ _ q)
theorem wO {es:List Expr} {vs:List V} {Q:List V→aj→Prop} (h:KU η σ es vs) (q:Q vs σ):rq n es η σ Q:=rq.mono (h n) fun U U z=>by erw[z.1,z.2];exact q
theorem zG {x:Str} {pos:Pos} {v:V} (h:gx η x (.val v)):EV η σ (.Name x pos) v:=fun U=>ut h ⟨rfl,rfl⟩
theorem zH {x:Str} {pos:Pos} {c:Addr} {v:V} (h:gx η x (.cel c)) (ha:At σ c (.cell v)):EV η σ (.Name x pos) v:=fun U=>bw h ha ⟨rfl,rfl⟩
theorem Cw {i:Int} {k:Nat} {pos:Pos}:EV η σ (.Constant (.int i) k pos) (.int i):=fun U=>tu ⟨rfl,rfl⟩
theorem Cu {x:Str} {k:Nat} {pos:Pos}:EV η σ (.Constant (.str x) k pos) (.str x):=fun U=>wR ⟨rfl,rfl⟩
theorem zI {b:Bool} {k:Nat} {pos:Pos}:EV η σ (.Constant (.bool b) k pos) (.bool b):=fun U=>uu ⟨rfl,rfl⟩
theorem qT {l r:Expr} {pos:Pos} {i j:Int} (h1:EV η σ l (.int i)) (h2:EV η σ r (.int j)):EV η σ (.BinOp l .Add r pos) (.int (i+j)):=fun U=>mK (dJ h1 (dJ h2 (x9 ⟨rfl,rfl⟩)))
theorem Ct {l r:Expr} {pos:Pos} {i j:Int} (h1:EV η σ l (.int i)) (h2:EV η σ r (.int j)):EV η σ (.BinOp l .Sub r pos) (.int (i-j)):=fun U=>mK (dJ h1 (dJ h2 (x0 ⟨rfl,rfl⟩)))
theorem Cv {x:Expr} {pos:Pos} {i:Int} (h:EV η σ x (.int i)):EV η σ (.UnaryOp .USub x pos) (.int (-i)):=fun U=>A0 (dJ h (xe ⟨rfl,rfl⟩))
theorem zF {o:Expr} {i:Int} {k:Nat} {p1 pos:Pos} {vs:List V} {v:V} (h:EV η σ o (.tup vs)) (hv:vs[i.toNat]?=some v) (h0:0≤i) (hi:i<2 ^ 63):EV η σ (.Subscript o (.Constant (.int i) k p1) pos) v:=
 fun U=>qq (dJ h (tu (uv hv h0 hi ⟨rfl,rfl⟩)))
theorem zE:KU η σ [] []:=fun U=>ur ⟨rfl,rfl⟩
theorem yb {e:Expr} {r:List Expr} {v:V} {vs:List V} (h:EV η σ e v) (h2:KU η σ r vs) (he:autoParam (∀env,starEach (e::r) env=(false,eval e env)::starEach r env) tI):KU η σ (e::r) (v::vs):=
 fun U=>cL (dJ h (wO h2 ⟨rfl,rfl⟩)) he
theorem yK {l r:Expr} {op:Operator} {pos:Pos} {u:V} (h:EV η σ l u) (h2:TE n r η σ fun b σ₂=>T2 n (binaryOp op) u b σ₂ Q):TE n (.BinOp l op r pos) η σ Q:=mK (dJ h h2)
theorem yJ {l r:Expr} {op:Operator} {pos:Pos} {u v:V} (h:EV η σ l u) (h2:EV η σ r v) (q:T2 n (binaryOp op) u v σ Q):TE n (.BinOp l op r pos) η σ Q:=mK (dJ h (dJ h2 q))
theorem yG {value slice:Expr} {pos:Pos} {u:V} (h:EV η σ value u) (h2:TE n slice η σ fun i σ₂=>T2 n (subscriptTail value slice) u i σ₂ Q):TE n (.Subscript value slice pos) η σ Q:=qq (dJ h h2)
theorem yF {value slice:Expr} {pos:Pos} {u v:V} (h:EV η σ value u) (h2:EV η σ slice v) (q:T2 n (subscriptTail value slice) u v σ Q):TE n (.Subscript value slice pos) η σ Q:=qq (dJ h (dJ h2 q))
theorem yH {l r:Expr} {op:CmpOp} {pos:Pos} {u v:V} (h:EV η σ l u) (h2:EV η σ r v) (q:T2 n (compareOp op) u v σ Q) (hm:autoParam (behindInMarks op r=false) tR):TE n (.Compare l [op] [r] pos) η σ Q:=wT (dJ h (dJ h2 q)) hm
section
variable {Q:Bool→aj→Prop}
theorem yM {l r:Expr} {op:CmpOp} {pos:Pos} {u:V} (h:EV η σ l u) (h2:TE n r η σ fun b σ₂=>T2 n (compareOp op) u b σ₂ fun v σ₃=>∃c,v=.bool c∧Q c σ₃) (hm:autoParam (behindInMarks op r=false) tR):TB n (.Compare l [op] [r] pos) η σ Q:=lm (dJ h h2) hm
theorem i3 {l r:Expr} {op:CmpOp} {pos:Pos} {u v:V} (h:EV η σ l u) (h2:EV η σ r v) (q:T2 n (compareOp op) u v σ fun v σ₃=>∃c,v=.bool c∧Q c σ₃) (hm:autoParam (behindInMarks op r=false) tR):TB n (.Compare l [op] [r] pos) η σ Q:=lm (dJ h (dJ h2 q)) hm
theorem BU {l r:Expr} {pos:Pos} {i j:Int} (h:EV η σ l (.int i)) (h2:EV η σ r (.int j)) (q:Q (i==j) σ) (hm:autoParam (behindInMarks .Eq r=false) tR):TB n (.Compare l [.Eq] [r] pos) η σ Q:=i3 h h2 (x8 ⟨_,rfl,q⟩) hm
theorem CT {l r:Expr} {pos:Pos} {i j:Int} (h:EV η σ l (.int i)) (h2:EV η σ r (.int j)) (q:Q (decide (i<j)) σ) (hm:autoParam (behindInMarks .Lt r=false) tR):TB n (.Compare l [.Lt] [r] pos) η σ Q:=i3 h h2 (Ac ⟨_,rfl,q⟩) hm
theorem CU {l r:Expr} {pos:Pos} {i j:Int} (h:EV η σ l (.int i)) (h2:EV η σ r (.int j)) (q:Q (decide (i≤j)) σ) (hm:autoParam (behindInMarks .LtE r=false) tR):TB n (.Compare l [.LtE] [r] pos) η σ Q:=i3 h h2 (Ae ⟨_,rfl,q⟩) hm
theorem CV {l r:Expr} {pos:Pos} {i j:Int} (h:EV η σ l (.int i)) (h2:EV η σ r (.int j)) (q:Q (decide (i≥j)) σ) (hm:autoParam (behindInMarks .GtE r=false) tR):TB n (.Compare l [.GtE] [r] pos) η σ Q:=i3 h h2 (Af ⟨_,rfl,q⟩) hm
theorem BT {l r:Expr} {pos:Pos} {x y:Str} (h:EV η σ l (.str x)) (h2:EV η σ r (.str y)) (q:Q (x==y) σ) (hm:autoParam (behindInMarks .Eq r=false) tR):TB n (.Compare l [.Eq] [r] pos) η σ Q:=i3 h h2 (x7 ⟨_,rfl,q⟩) hm
theorem BS {l r:Expr} {pos:Pos} {x y:Str} (h:EV η σ l (.str x)) (h2:EV η σ r (.str y)) (q:Q (x != y) σ) (hm:autoParam (behindInMarks .NotEq r=false) tR):TB n (.Compare l [.NotEq] [r] pos) η σ Q:=i3 h h2 (qu ⟨_,rfl,q⟩) hm
end
end
section
variable {n:Nat} {η:aI} {σ:aj} {Q:Fl→aI→aj→Prop}
theorem yy {x:Str} {p1:Pos} {value:Expr} {pos:Pos} {v:V} {η':aI} {rest:List Stmt} (h:EV η σ value v) (hx:bP η x v η') (q:dl n rest η' σ Q)
 (hs:autoParam (∀env,swapsWithSole [.Name x p1] value pos.line env=pure false) tI) (hw:autoParam (∀env,swappedStores [.Name x p1] value env=pure none) tI)
 (ht:autoParam (∀env,(assignEach [.Name x p1] env).map (fun U=>U.2)=[assign (.Name x p1) env]) tI):dl n (.Assign [.Name x p1] value pos::rest) η σ Q:=
 bq (eN (dJ h (dr hx (show gy n rest Q .next η' σ from q))) hs hw ht)
theorem yz {e:Expr} {pos:Pos} {v:V} (h:EV η σ e v) (q:Q (.ret v) η σ):TS n (.Return (some e) pos) η σ Q:=tq (dJ h q)
end
theorem cg:PySem.Slot "set_iterator" "__next__" "set_iterator.__next__":=
 .of (owner:="set_iterator") (n:="__next__") (by erw[typeLookup_type,builtinLookup_eq_fast];nofun) (by decide +kernel) (by decide +kernel) (by decide +kernel)
  (by first|exact .inl (by decide +kernel)|exact .inr (by decide +kernel)) (by erw[isSubtype_type];nofun)
theorem jM:entryFor table "set_iterator.__next__" = some Builtin.«set_iterator.__next__»:=entryFor_of_tree (by nofun)
theorem rM:Manifest.owners.lookup (String.ofList ['r','o','t','a','r','e','t','i','_','t','e','s'].reverse)=some Manifest.sig_set_iterator:=by kernel_rfl
theorem kB (a:Value):argsOk "set_iterator.__next__" ⟨[a],[]⟩:=by
 unfold argsOk;erw[signature?_of (id:="set_iterator.__next__") (n:=['_','_','t','x','e','n','_','_']) (o:=['r','o','t','a','r','e','t','i','_','t','e','s']) (by nofun) rM];nofun
theorem kA:PySem.Slot "set_iterator" "__iter__" "set_iterator.__iter__":=
 .of (owner:="set_iterator") (n:="__iter__") (by erw[typeLookup_type,builtinLookup_eq_fast];nofun) (by decide +kernel) (by decide +kernel) (by decide +kernel)
  (by first|exact .inl (by decide +kernel)|exact .inr (by decide +kernel)) (by erw[isSubtype_type];nofun)
theorem oW:entryFor table "set_iterator.__iter__" = some Builtin.«dict_keyiterator.__iter__»:=
 entryFor_alias (id':="dict_keyiterator.__iter__") (by nofun) rfl (by decide +kernel) (by nofun)
theorem qA (a:Value):argsOk "set_iterator.__iter__" ⟨[a],[]⟩:=by
 unfold argsOk;erw[signature?_of (id:="set_iterator.__iter__") (n:=['_','_','r','e','t','i','_','_']) (o:=['r','o','t','a','r','e','t','i','_','t','e','s']) (by nofun) rM];nofun
theorem mT:entryFor table "set.__iter__" = some Builtin.«frozenset.__iter__»:=
 entryFor_alias (id':="frozenset.__iter__") (by nofun) rfl (by decide +kernel) (by nofun)
theorem kh {α:Type}:∀{l:List α} {i:Nat} (h:i<l.length),(l[i]::l.eraseIdx i).Perm l
 | a::l,0,_=>.refl _
 | a::l,i+1,h=>by
  have ih:=kh (l:=l) (i:=i) (by simpa using h)
  simp only[List.getElem_cons_succ,List.eraseIdx_cons_succ];exact(List.Perm.swap _ _ _).trans (.cons _ ih)
theorem zp {α:Type} (f:Nat→Nat):∀(n k:Nat) (left:List α) (out:Array α),left.length≤n→(pickOrder.go f n k left out).toList.Perm (out.toList++left):=by
 intro n;induction n with
 | zero=>
  intro k left out h;have:left=[]:=List.length_eq_zero_iff.mp (by exact Jp h)
  subst this;show out.toList.Perm (out.toList++[])
  erw[List.append_nil]
 | succ n ih=>
  intro k left out h;show(match left[f k%left.length]? with|some x=>pickOrder.go f n (k+1) (left.eraseIdx (f k%left.length)) (out.push x)|none=>out).toList.Perm (out.toList++left)
  cases e:left[f k%left.length]? with
  | none=>
   have:left=[]:=by
    cases left with
    | nil=>rfl
    | cons a l=>
     rw[List.getElem?_eq_none_iff]at e;have:=Nat.mod_lt (f k) (y:=(a::l).length) (by simp)
     omega
   subst this;simp
  | some x=>
   dsimp only
   have hi:f k%left.length<left.length:=by
    rw[List.getElem?_eq_some_iff]at e;exact e.1
   have hx:left[f k%left.length]=x:=by
    rw[List.getElem?_eq_some_iff]at e;exact e.2
   refine(ih _ _ _ (by erw[List.length_eraseIdx_of_lt hi];exact Jo h hi)).trans ?_;erw[Array.toList_push,List.append_assoc];refine List.Perm.append_left _ ?_;have:=kh hi
   rw[hx]at this;exact this
theorem jr {α:Type} (f:Nat→Nat) (xs:Array α):(pickOrder f xs).toList.Perm xs.toList:=by
 have:=zp f xs.size 0 xs.toList #[] (by simp)
 simpa [pickOrder]using this
section
variable {prog:Program} {w:World} {A:Around} {E:Value→Shared→Prop} {s:Shared}
theorem uf {src:Source} {n:Nat} {Q:Nat→Shared→Prop} (hn:n≠0) (h:∀i d,i<n→Q i { s with drawn:=d }):wpAny (model prog w) A (choose src n) Q E s:=
 fun U U U=>⟨hn,h _ _ (Nat.mod_lt _ (Nat.pos_of_ne_zero hn))⟩
theorem pu {α:Type}:∀(n:Nat) (xs:List α) {s:Shared} {Q:List α→Shared→Prop},n=xs.length→(∀ys d,ys.Perm xs→Q ys { s with drawn:=d })→wpAny (model prog w) A (drawOrder n xs) Q E s:=by
 intro n;induction n with
 | zero=>
  intro xs s Q h k;have:xs=[]:=List.length_eq_zero_iff.mp h.symm
  subst this;exact wpAny_pure (k [] s.drawn (.refl _))
 | succ n ih=>
  intro xs s Q h k;cases xs with
  | nil=>simp at h
  | cons a l=>
   refine wpAny_bind (uf (by simp) fun i d hi=>?_);obtain⟨x,hx⟩:∃x,(a::l)[i]?=some x:=⟨_,List.getElem?_eq_getElem hi⟩;erw[hx];dsimp only;refine wpAny_bind (ih _ (by erw[List.length_eraseIdx_of_lt hi];exact Jn h) fun ys d2 hp=>?_);refine wpAny_pure (k (x::ys) d2 ?_);have h2:=kh hi
   rw[List.getElem?_eq_some_iff] at hx;rw[hx.2] at h2;exact(List.Perm.cons x hp).trans h2
theorem ir {Q:Bool→Shared→Prop} (h:Q (w.params.followText "set-order") s):wpAny (model prog w) A setsByText Q E s:=by
 unfold setsByText;exact wpAny_bind (wpAny_askSetting (wpAny_pure h))
theorem i7:∀{vs vs':List Value},vs'.Perm vs→∀{ks:List Str},StrsAre vs ks→∃ks',StrsAre vs' ks'∧ks'.Perm ks:=by
 intro vs vs' h;induction h with
 | nil=>intro ks h;exact⟨ks,h,.refl _⟩
 | cons x _ ih=>
  intro ks h;cases h with
  | cons y t h=>
   obtain⟨ks',h1,h2⟩:=ih h;exact⟨y::ks',.cons y t h1,.cons _ h2⟩
 | swap x y l=>
  intro ks h;cases h with
  | cons a t h=>
   cases h with
   | cons b u h=>exact⟨b::a::_,.cons b u (.cons a t h),.swap _ _ _⟩
 | trans _ _ ih1 ih2=>
  intro ks h;obtain⟨k1,g1,g2⟩:=ih2 h;obtain⟨k2,g3,g4⟩:=ih1 g1;exact⟨k2,g3,g4.trans g2⟩
theorem mS {vs:List Value} {ks:List Str} (h:StrsAre vs ks):∀{us:List Value} {js:List Str},StrsAre us js→StrsAre (vs++us) (ks++js):=by
 induction h with
 | nil=>exact fun h=>h
 | cons y t r ih=>exact fun h=>.cons y t (ih h)
theorem rL {vs:List Value} {ks:List Str} (h:StrsAre vs ks):∀k,(k∈ks↔∃v∈vs,Value.isStrOf k v=true):=by
 induction h with
 | nil=>intro k;simp
 | cons y t r ih=>
  intro k;simp only[List.mem_cons,ih k,exists_eq_or_imp,Value.isStrOf,beq_iff_eq];exact⟨fun h=>h.imp (fun e=>e.symm) id,fun h=>h.imp (fun e=>e.symm) id⟩
end
theorem qK (t:SetTable) (es:Array (Int×Value)) (h:Int) (x:Value):(layNew t es h x).2.1.led=t.led:=by
 delta t es h x at ⊢
 unfold layNew
 split
 ·simp only[SetTable.put,SetTable.orStandIn,SetTable.standIn]
  repeat' split
  all_goals rfl
 ·rfl
theorem tJ {mask finger moves:Nat} {led plain:Bool} {hs:Array Int} {t:SetTable} {o:Array Nat} (h:SetTable.laid mask finger moves led plain hs=some (t,o)):t.led=led∧t.plain=plain:=by
 unfold SetTable.laid at h;cases e:SetTable.layClean mask hs with
 | none=>rw[e]at h;simp at h
 | some ow=>
  rw[e]at h;simp only[Option.bind_eq_bind,Option.bind_some,Option.pure_def,Option.some.injEq,Prod.mk.injEq]at h;obtain⟨rfl,_⟩:=h;exact⟨rfl,rfl⟩
set_option tactic.hygienic true in
theorem s0 (t:SetTable) (es:Array (Int×Value)) (n:Nat):(relayAll t es n).2.1.led=t.led∧((relayAll t es n).2.1.plain=true→t.plain=true):=by
 delta t es n at ⊢;unfold relayAll;split
 ·rename_i t' o h;have:=tJ h
  dsimp only;split
  ·exact⟨this.1,fun e=>by erw[←this.2];exact e⟩
  ·exact⟨rfl,fun e=>by simp[SetTable.standIn]at e⟩
 ·exact⟨rfl,fun e=>by simp[SetTable.standIn]at e⟩
def gb (prog:Program) (w:World) (h:Heap) (a:Addr) (us:List Str):Prop:=
 ∃o es ep t ks,h.get? a=some o∧o.ExactSet∧o.data=.set es ep t∧ElemsOf (PySem.strKind prog w) es.toList∧t.fits es.size=true∧t.led=(!(w.params.followText "set-order"))∧(es.size≠0→t.plain=false)∧
  StrsAre (es.toList.map (fun U=>U.2)) ks∧ks.Nodup∧(∀x,x∈ks↔x∈us)∧es.size≤us.length
section
variable {prog:Program} {w:World} {A:Around} {E:Value→Shared→Prop} {s:Shared}
theorem xi {h:Heap} {a:Addr} {o:Obj} {es:Array (Int×Value)} {ep:Nat} {t:SetTable} (ho:h.get? a=some o) (hd:o.data=.set es ep t) (es':Array (Int×Value)) (t':SetTable):
 (h.update a (Obj.putSet es' t')).get? a=some { o with data:=.set es' (ep+1) t' }:=by
 have:=Heap.get?_update_self (Obj.putSet es' t') ho (by erw[putSet_of es' t' hd];rfl)
 rwa[putSet_of es' t' hd]at this
theorem uA {g:Bool→Sem Unit} (hg:∀(b:Bool) (s₁:Shared) (Q':Unit→Shared→Prop),Q' () s₁→wpAny (model prog w) A (g b) Q' E s₁)
 {a:Addr} {o:Obj} {es:Array (Int×Value)} {ep:Nat} {t:SetTable} (ho:s.heap.get? a=some o) (hex:o.ExactSet) (hd:o.data=.set es ep t)
 {es1:Array (Int×Value)} {t2:SetTable} {ks:List Str} {us:List Str} (hel:ElemsOf (PySem.strKind prog w) es1.toList) (hf:t2.fits es1.size=true) (hl:t2.led=(!(w.params.followText "set-order"))) (hp:t2.plain=false)
 (hk:StrsAre (es1.toList.map (fun U=>U.2)) ks) (hn:ks.Nodup) (hm:∀x,x∈ks↔x∈us) (hz:es1.size≤us.length) (hb:us.length<scanBound) {wasDummy:Bool} {R:Option Bool→Shared→Prop}
 (h:∀h',Heap.SameBut a s.heap h'→gb prog w h' a us→R (some true) { s with heap:=h' }):
 wpAny (model prog w) A (do
  storeSet a es1 t2
  if(!wasDummy&&t2.tooFull)=true then do
      g (relayAll t2 es1 (SetTable.grown es1.size)).2.2
      storeSet a (relayAll t2 es1 (SetTable.grown es1.size)).1 (relayAll t2 es1 (SetTable.grown es1.size)).2.1
      pure (some true)
   else pure (some true)) R E s:=by
 delta prog w A E s g hg a o es ep t ho hex hd es1 t2 ks us hel hf hl hp hk hn hm hz hb wasDummy R h at ⊢
 have h1:scanBound=4096:=rfl
 refine wpAny_bind (wpAny_storeSet_of ho hd ?_ (fits_of_scanBound (by omega)))
 have ho1:=xi ho hd es1 t2
 have hsb:=Heap.SameBut.update s.heap a (Obj.putSet es1 t2)
 split
 ·have p1:=relayAll_perm t2 es1 (SetTable.grown es1.size)
  have p2:=relayAll_fits t2 es1 (SetTable.grown es1.size)
  have p3:=s0 t2 es1 (SetTable.grown es1.size)
  generalize relayAll t2 es1 (SetTable.grown es1.size)=Rl at p1 p2 p3 ⊢
  obtain⟨es2,t3,gave⟩:=Rl;delta es2 t3 gave at *
  try dsimp only at p1 p2 p3 ⊢
  have hsz:es2.size=es1.size:=by erw[←Array.length_toList,p1.length_eq,Array.length_toList]
  refine wpAny_bind (hg _ _ _ ?_)
  refine wpAny_bind (wpAny_storeSet_of ho1 rfl ?_ (fits_of_scanBound (by exact DW h1 hsz hz hb)))
  have ho2:=xi ho1 rfl es2 t3
  injection (i7 (p1.map (fun U=>U.2)) hk)with ks' q1 q2
  refine wpAny_pure (h _ (hsb.trans (Heap.SameBut.update _ a _)) ⟨_,es2,_,t3,ks',ho2,hex,rfl,hel.perm p1,p2,p3.1.trans hl,?_,q1,(q2.nodup_iff).mpr hn,fun x=>(q2.mem_iff).trans (hm x),by exact Jm hsz hz⟩)
  intro _
  cases e:t3.plain with
  | false=>rfl
  | true=>rw[p3.2 e]at hp;injection hp
 ·exact wpAny_pure (h _ hsb ⟨_,es1,_,t2,ks,ho1,hex,rfl,hel,hf,hl,fun U=>hp,hk,hn,hm,hz⟩)
set_option tactic.hygienic true in
theorem ue {a:Addr} {us:List Str} {k:Str} {tk:Tok} {Q:Bool→Shared→Prop} (hS:gb prog w s.heap a us) (hb:us.length+1<scanBound)
 (h:∀b h' tk',Heap.SameBut a s.heap h'→gb prog w h' a (us++[k])→Q b { s with heap:=h',toks:=tk' }):wpAny (model prog w) A (setAdd a (.str k tk)) Q E s:=by
 delta prog w A E s a us k tk Q hS hb h at ⊢;injection hS with o es ep t ks ho hex hd hel hf hl hp hk hn hm hz;have h1:scanBound=4096:=rfl
 have hkey:(PySem.strKind prog w).is k (.str k tk)=true:=by simp[PySem.strKind,Value.isStrOf]
 have hmk:=rL hk
 unfold setAdd;refine wpAny_holding (wpAny_bind ((PySem.strKind prog w).pyHash hkey ?_));unfold setAddHashed setAddHashedIn;refine wpAny_holding (wpAny_bind (wpAny_setState_of ho hd hf ?_));dsimp only;erw[byScan_of (knd:=PySem.strKind prog w) rfl (by exact DV h1 hz hb) hel];simp only[↓reduceIte];unfold setAddByScan;refine wpAny_bind ?_;refine wpAny_bind (wpAny_rule ?_);refine wpAny_bind (wpAny_setScan_of (s:={ s with toks:=s.toks+1 }) hkey ho hd hf hel ?_);cases hr:List.findIdx? (fun e=>(PySem.strKind prog w).is k e.2) es.toList with
 | some j=>
  delta j at *;dsimp only;injection (List.findIdx?_eq_some_iff_getElem.mp hr)with hj hpj _;have hin:k∈ks:=(hmk k).mpr ⟨_,List.mem_map.mpr ⟨_,List.getElem_mem hj,rfl⟩,hpj⟩
  refine wpAny_pure (wpAny_pure ?_);refine h _ s.heap _ (Heap.SameBut.refl a s.heap) ⟨o,es,ep,t,ks,ho,hex,hd,hel,hf,hl,hp,hk,hn,?_,by erw[List.length_append];omega⟩;delta x;erw[List.mem_append,List.mem_singleton,hm x];exact⟨.inl,fun e=>e.elim id fun e=>(hm x).mp (e▸hin)⟩
 | none=>
  dsimp only
  have hout:k∉ks:=fun hin=>by
   obtain⟨v,hv,hq⟩:=(hmk k).mp hin;obtain⟨e,he,rfl⟩:=List.mem_map.mp hv;have:=List.findIdx?_eq_none_iff.mp hr e he
   change Value.isStrOf k e.2=false at this;rw[hq]at this;cases this
  have hgw:∀(b:Bool) {s₁:Shared} {Q':Unit→Shared→Prop},Q' () s₁→wpAny (model prog w) A (match b with|true=>rule "set.scan.the-table-gave-way" | false=>pure ()) Q' E s₁:=
   fun b s₁ Q' hq=>by cases b<;>first|exact wpAny_pure hq|exact wpAny_rule hq
  have hperm:=layNew_perm t es ((PySem.strKind prog w).hash k) (.str k tk)
  have hfits:=layNew_fits t es ((PySem.strKind prog w).hash k) (.str k tk)
  have hled:=qK t es ((PySem.strKind prog w).hash k) (.str k tk)
  generalize layNew t es ((PySem.strKind prog w).hash k) (.str k tk)=L at hperm hfits hled ⊢;obtain⟨es1,t1,wasDummy,gave⟩:=L;delta es1 t1 wasDummy gave at *;dsimp only at hperm hfits hled ⊢;rw[Array.toList_push]at hperm;have hel1:ElemsOf (PySem.strKind prog w) es1.toList:=(hel.push hkey rfl).perm hperm
  have hsz:es1.size=es.size+1:=by erw[←Array.length_toList,hperm.length_eq,List.length_append,Array.length_toList];rfl
  injection (i7 (vs:=es.toList.map (fun U=>U.2)++[.str k tk]) (by simpa using hperm.map (fun U=>U.2)) (mS hk (.cons k tk .nil)))with ks1 q1 q2;have q3:ks1.Nodup:=(q2.nodup_iff).mpr (by erw[List.nodup_append];exact⟨hn,by simp,fun x hx y hy=>by rw[List.mem_singleton]at hy;subst hy;intro e;subst e;exact hout hx⟩)
  have q4:∀x,x∈ks1↔x∈us++[k]:=fun x=>by erw[q2.mem_iff,List.mem_append,List.mem_append,hm x]
  refine wpAny_bind (hgw _ ?_);have hend:∀h',Heap.SameBut a s.heap h'→gb prog w h' a (us++[k])→Q true { s with heap:=h',toks:=s.toks+1 }:=fun h' b c=>h true h' _ b c
  split
  ·refine wpAny_bind ?_;erw[hashByValue_scannable 8 rfl];refine wpAny_pure ?_;refine uA (s:={ s with toks:=s.toks+1 }) (g:=fun b=>match b with|true=>rule "set.scan.the-table-gave-way" | false=>pure ()) (fun b s₁ Q' hq=>hgw b hq) ho hex hd hel1 (t2:={ t1 with plain:=false }) (SetTable.fits_plain_off hfits) (hled.trans hl) rfl q1 q3 q4 (by erw[List.length_append,List.length_singleton];exact D9 hsz hz) (by erw[List.length_append,List.length_singleton];omega) ?_;delta h' b c;exact wpAny_pure (hend h' b c)
  ·rename_i hpl;refine wpAny_bind (wpAny_pure ?_);simp only[↓reduceIte];refine uA (s:={ s with toks:=s.toks+1 }) (g:=fun b=>match b with|true=>rule "set.scan.the-table-gave-way" | false=>pure ()) (fun b s₁ Q' hq=>hgw b hq) ho hex hd hel1 hfits (hled.trans hl) (by simpa using hpl) q1 q3 q4 (by erw[List.length_append,List.length_singleton];exact D9 hsz hz) (by erw[List.length_append,List.length_singleton];omega) ?_;delta h' b c;exact wpAny_pure (hend h' b c)
end
section
variable {prog:Program} {w:World} {A:Around} {E:Value→Shared→Prop} {s:Shared}
theorem yP {I:Addr} {fp wr:List Addr} {G:Array GenState→Array GenState→Prop} {n:Nat} {P:Nat→Value→Prop} {St:Nat→Shared→Prop} {R:Result→Shared→Prop}
 (W:WalksS prog w A.in1 I fp wr G n P St) (D:Addr) (hD:D∉fp) (us:List Str) (hl:us.length=n) (hval:∀i v,P i v→∃k t,us[i]?=some k∧v=.str k t) (hb:n+1<scanBound):
 ∀(k i:Nat) (s:Shared),n-i=k→i≤n→St i s→gb prog w s.heap D (us.take i)→
  (∀s',Moved (D::wr) G s s'→gb prog w s'.heap D us→R (.ok (.ret .none)) s')→
  codeAny (model prog w) A (.builtin "set.update.loop" ⟨[.ref D,.ref I],[]⟩) R s:=by
 delta prog w A I fp wr G n P St R W D hD us hl hval hb at ⊢
 have hDw:D∉wr:=fun h=>hD (W.sub _ h)
 have sub:∀b∈wr,b∈D::wr:=fun b hb=>List.mem_cons_of_mem _ hb
 have keep:∀{s s':Shared} {us':List Str},Moved wr G s s'→gb prog w s.heap D us'→gb prog w s'.heap D us':=fun hm hS=>by
  obtain⟨o,es,ep,t,ks,ho,rest⟩:=hS
  exact⟨o,es,ep,t,ks,hm.heap D _ hDw ho,rest⟩
 intro k
 induction k with
 | zero=>
  intro i s hk hi hst hS hR
  have hin:i=n:=by exact Jl hi hk
  subst hin
  refine codeAny_builtin PyProof.Rows.F.entry_set_update_loop ?_
  erw[Around.under_plainId PyProof.Rows.F.plain_set_update_loop _]
  show wpAny _ A.in1 (pyNext (.ref I) >>= _) _ _ s
  refine wpAny_bind (W.done s _ _ hst fun s' hm=>?_)
  show wpAny _ A.in1 (ret Value.none) _ _ s'
  refine wpAny_pure (hR s' (hm.mono sub) ?_)
  have:=keep hm hS
  rwa[←hl,List.take_length] at this
 | succ k ih=>
  intro i s hk hi hst hS hR
  have hlt:i<n:=by exact Jk hi hk
  refine codeAny_builtin PyProof.Rows.F.entry_set_update_loop ?_
  erw[Around.under_plainId PyProof.Rows.F.plain_set_update_loop _]
  show wpAny _ A.in1 (pyNext (.ref I) >>= _) _ _ s
  refine wpAny_bind (W.item i s _ _ hlt hst fun v s' hP hst' hm=>?_)
  obtain⟨x,t,hx,rfl⟩:=hval i v hP
  show wpAny _ A.in1 (holding [Value.str x t] (setAdd D (.str x t)) >>= _) _ _ s'
  refine wpAny_bind (wpAny_holding (wpAny_with_toks (Nat.le_refl s'.toks) (ue (keep hm hS) (by erw[List.length_take];exact Jj hlt hi hl hb) fun b h' tk' hsb hS2 htk=>?_)))
  have e:us.take i++[x]=us.take (i+1):=by erw[List.take_succ,hx];rfl
  rw[e] at hS2
  refine wpAny_pure ⟨plainId_quiet PyProof.Rows.F.plain_set_update_loop _,ih (i+1) _ (by exact Ji hk hlt hi) hlt (W.frame _ s' _ _ hst' htk fun b hb o eo=>?_) hS2 fun s'' hm2 hS3=>?_⟩
  ·erw[hsb.2 b (fun h:b=D=>hD (by erw[←h];exact hb))];exact eo
  ·refine hR s'' (Moved.trans W.gtrans ((hm.mono sub).then_heap htk fun b o hb eo=>?_) hm2) hS3
   erw[hsb.2 b (fun h:b=D=>hb (by erw[h];exact List.mem_cons_self))];exact eo
abbrev cz (w:World):Obj:={ cls:=.type "set",dict:=none,data:=.set #[] 0 (.fresh 0 0 (!(w.params.followText "set-order"))) }
theorem xk {h:Heap} {a:Addr} (e:h.get? a=some (cz w)):gb prog w h a []:=
 ⟨_,#[],0,_,[],e,⟨rfl,rfl,rfl⟩,rfl,fun e he=>by simp at he,by rfl,rfl,fun h=>absurd rfl h,.nil,.nil,fun x=>Iff.rfl,Nat.le_refl _⟩
theorem C6 (a:Value) {Q₁:Value→Shared→Prop} (h:Q₁ (.ref s.heap.objs.size) { s with heap:=s.heap.push (cz w) }):
 codeAny (model prog w) A (.call (.builtin "set.__new__") ⟨[.type "set",a],[]⟩) (wants Q₁ E) s:=by
 delta prog w A E s a Q₁ h at ⊢;refine codeAny_of_tree ?_;show wpAny _ A.in1 (do checkBuiltinCall "set.__new__" ⟨[.type "set",a],[]⟩;again (.builtin "set.__new__" ⟨[.type "set",a],[]⟩)) _ _ s
 refine wpAny_bind (wpAny_of_eq (PySem.F.newCall_set_1 a) (wpAny_pure ⟨plainId_quiet PySem.F.plain_set_new _,codeAny_builtin PySem.F.entry_set_new ?_⟩));erw[Around.under_plainId PySem.F.plain_set_new _];unfold Builtin.«set.__new__» Builtin.Frozenset.newClass;have hsub:=sub_set_self
 obtain⟨hp,g,d,tk,os⟩:=s;dsimp only at h ⊢;wp_walk;refine wpAny_askSetting (wpAny_pure ?_);dsimp only;simp only[newObj];exact wpAny_bind (wpAny_alloc (wpAny_pure (wpAny_pure h)))
set_option maxHeartbeats 3200000 in
theorem rm {l:Addr} {items:Array Value} {us:List Str} {Q:Value→Shared→Prop} (hh:A.handled=none) (hl:s.heap.IsList l items) (hi:StrsAre items.toList us) (hb:us.length+1<scanBound)
 (h:∀(h':Heap) (tk:Nat),gb prog w h' s.heap.objs.size us→(∀b o,s.heap.get? b=some o→h'.get? b=some o)→Q (.ref s.heap.objs.size) { s with heap:=h',toks:=tk }):
 wpAny (model prog w) A (call (.type "set") [.ref l]) Q E s:=by
 delta prog w A E s l items us Q hh hl hi hb h at ⊢
 have hlen:items.size=us.length:=by erw[←Array.length_toList,kN hi]
 obtain⟨c,tl,hmro⟩:=PySem.F.called_set.mro
 have hmade:=PySem.F.called_set.made
 have hsub:=PySem.F.called_set.sub
 refine wpAny_call (codeAny_of_tree ?_)
 show wpAny _ _ (callAny (.type "set") _) _ _ _
 refine wpAny_pure ⟨Code.quiet_builtin _ (by decide +kernel),codeAny_builtin PySem.F.entry_type_call ?_⟩
 erw[Around.under_plain (weight_type_call_type "set" [.ref l] []) rfl]
 have h1:=PySem.F.called_set.notType
 have h2:=PySem.F.called_set.canCreate
 have hct:=PySem.F.typeCall_set_1 (.ref l)
 repeat (any_goals (first|assumption|wp_step))
 refine codeAny_mono (C6 (.ref l) (E:=E) (Q₁:=fun obj s₁=>obj=.ref s.heap.objs.size∧s₁={ s with heap:=s.heap.push (cz w) }) ⟨rfl,rfl⟩) fun r s₁ hr=>?_
 cases r with
 | error e=>exact hr
 | ok fl=>
  cases fl with
  | ret obj=>
   obtain⟨rfl,rfl⟩:=hr
   have hS:(s.heap.push (cz w)).get? s.heap.objs.size=some (cz w):=Heap.get?_push_size _ rfl
   have hT:Shared.TypeIs { s with heap:=s.heap.push (cz w) } (.ref s.heap.objs.size) "set":=⟨_,hS,rfl⟩
   have hli:=PySem.F.called_set.init.lookup
   have hbi:=PySem.F.called_set.init.bind (.ref s.heap.objs.size)
   repeat (any_goals (first|assumption|wp_step))
   refine codeAny_mono (codeAny_call_builtin (R:=wants (fun r s₂=>r=.none∧∃h' tk,s₂={ s with heap:=h',toks:=tk }∧gb prog w h' s.heap.objs.size us∧(∀b o,s.heap.get? b=some o→h'.get? b=some o)) E) PySem.F.called_set.init.plain PySem.F.entry_set_init (check_set_init_1 hT ?_)) fun r₂ s₂ hr₂=>?_
   ·obtain⟨ol,hol,hcl,nl,hdl⟩:=hl
    obtain⟨ocls,odict,odata,oslots⟩:=ol
    simp only at hcl hdl
    subst hcl;subst hdl
    have hol':(s.heap.push (cz w)).get? l=some { cls:=.type "list",dict:=odict,data:=.seq items nl,slots:=oslots }:=Heap.get?_push_of_some _ hol
    have hsls:=PySem.F.sub_list_set
    have hslf:=PySem.F.sub_list_frozenset
    have hne:(Value.type "list" == Value.type "dict")=false:=by decide
    have hl1:(s.heap.push (cz w)).IsList l items:=⟨_,hol',rfl,nl,rfl⟩
    unfold Builtin.«set.__init__» noKeywords Builtin.Frozenset.updateFrom
    generalize hPI:pyIter=PI
    wp_walk
    subst hPI
    refine wpAny_pyIter_list hl1 ?_
    refine wpAny_bind (wpAny_runValue ?_)
    have hlS:l<s.heap.objs.size:=Heap.lt_size hol
    have hh3:A.in1.in1.in1.handled=none:=by simp[hh]
    have hneI:l≠(s.heap.push (cz w)).objs.size:=by
     erw[Heap.size_push];exact Nat.ne_of_lt (Nat.lt_succ_of_lt hlS)
    have hSf:s.heap.objs.size∉[(s.heap.push (cz w)).objs.size,l]:=by
     erw[Heap.size_push];simp only[List.mem_cons,List.mem_singleton,List.not_mem_nil,or_false,not_or]
     exact⟨Nat.ne_of_lt (Nat.lt_succ_self _),Nat.ne_of_gt hlS⟩
    refine yP ((Walks.list hh3 _ l hneI items).toS) s.heap.objs.size hSf us hlen.symm (fun i v hv=>?_) (by exact Jh hlen hb) (items.size-0) 0 _ (by exact Jg) (Nat.zero_le _)
     ⟨⟨_,Heap.get?_push_size _ rfl,rfl,rfl⟩,hl1.push _⟩ (by simpa using xk (Heap.get?_push_of_some _ hS)) fun s' hm hS'=>?_
    ·have gen:∀{vs:List Value} {us:List Str},StrsAre vs us→∀{i:Nat} {v:Value},vs[i]?=some v→∃k t,us[i]?=some k∧v=.str k t:=by
      intro vs us h
      induction h with
      | nil=>intro i v e;simp at e
      | cons y t _ ih=>
       intro i v e
       cases i with
       | zero=>simp at e;exact⟨y,t,rfl,e.symm⟩
       | succ i=>simp only[List.getElem?_cons_succ] at e ⊢;exact ih e
     exact gen hi (by erw[Array.getElem?_toList];exact hv)
    ·obtain⟨h',g',d',tk',os'⟩:=s'
     have eg:g'=s.gens:=hm.gens
     have ed:d'=s.drawn:=hm.drawn
     have eo:os'=s.os:=hm.os
     subst eg;subst ed;subst eo
     show wpAny _ _ _ _ _ _
     refine wpAny_pure ?_
     show wpAny _ _ (ret Value.none) _ _ _
     refine wpAny_pure ⟨rfl,h',tk',rfl,hS',fun b o e=>?_⟩
     have hb0:=Heap.lt_size e
     have hb1:b≠s.heap.objs.size:=Nat.ne_of_lt hb0
     have hb2:b≠(s.heap.push (cz w)).objs.size:=by
      erw[Heap.size_push];exact Nat.ne_of_lt (Nat.lt_succ_of_lt hb0)
     exact hm.heap b o (by simp only[List.mem_cons,List.mem_singleton,List.not_mem_nil,or_false,not_or];exact⟨hb1,hb2⟩) (Heap.get?_push_of_some _ (Heap.get?_push_of_some _ e))
   ·cases r₂ with
    | error e=>exact hr₂
    | ok fl₂=>
     cases fl₂ with
     | ret r=>
      obtain⟨rfl,h',tk,rfl,hS',hk'⟩:=hr₂
      repeat (any_goals (first|assumption|wp_step))
      exact h _ _ hS' hk'
     | _=>exact hr₂.elim
  | _=>exact hr.elim
end
def wE (h:Heap) (r:Addr) (es:Array (Int×Value)) (ep:Nat) (t:SetTable):Prop:=∃o,h.get? r=some o∧o.ExactSet∧o.data=.set es ep t
def tg (h:Heap) (I r:Addr) (first:Value) (i n ep:Nat):Prop:=
 h.get? I=some { cls:=.type "set_iterator",dict:=none,data:=.fields #[first,.int i 0,.ref r,.int n 0,.int ep 0],slots:=#[] }
section
variable {prog:Program} {w:World} {A:Around} {E:Value→Shared→Prop} {s:Shared}
theorem tg.typeIs {I r:Addr} {first:Value} {i n ep:Nat} (h:tg s.heap I r first i n ep):s.TypeIs (.ref I) "set_iterator":=⟨_,h,rfl⟩
theorem qz {I r:Addr} {first:Value} {i n ep:Nat} {Q:Value→Shared→Prop} (h:tg s.heap I r first i n ep) (q:Q (.ref I) s):wpAny (model prog w) A (pyIter (.ref I)) Q E s:=by
 refine wpAny_pyIter_slot h.typeIs kA (wpAny_call_entry kA h.typeIs oW ?_ (qA _));show wpAny _ _ (ret (.ref I)) _ _ s
 exact wpAny_pure ⟨_,rfl,"set_iterator",_,h.typeIs,cg.lookup,q⟩
theorem uB {Q:Option Value→Shared→Prop} {s₁:Shared} (hh:A.in1.handled=none) (hQ:∀h',(∀b o,s₁.heap.get? b=some o→h'.get? b=some o)→Q none { s₁ with heap:=h' }):
 wpAny (model prog w) A.in1 (newExc (.type "StopIteration") [] >>= fun x=>(raiseNew x:Sem Fin))
  (fun fin s'=>∃v,fin=.done (.ret v)∧Q (some v) s') (fun e s'=>wpAny (model prog w) A (isInstance e (.type "StopIteration") >>= fun b=>if b=true then pure none else throw e) Q E s') s₁:=by
 delta prog w A E Q s₁ hh hQ at ⊢;refine wpAny_bind ?_;simp only[newExc,newTuple];refine wpAny_bind (wpAny_newObj_type ?_ (by size_fits));refine wpAny_bind (m:=firstArgMember _ _) (wpAny_of_eq (a:=Value.none) (by first|rfl|(simp only[firstArgMember];rfl)) ?_);refine wpAny_newObj_type ?_ (by size_fits);simp only[raiseNew];refine wpAny_bind (wpAny_handled ?_);erw[hh];refine wpAny_bind (wpAny_pure (wpAny_throw ?_));refine wpAny_bind (wpAny_isInstance (T:="StopIteration") (b:=true) ⟨_,Heap.get?_push_size _ rfl,rfl⟩ isSubtype_stop ?_);exact wpAny_pure (hQ _ fun b o e=>Heap.get?_push_of_some _ (Heap.get?_push_of_some _ e))
theorem gf {I r:Addr} {slot i n ep:Nat} {es:Array (Int×Value)} {t:SetTable} {Q:Option Value→Shared→Prop} (hh:A.handled=none) (hit:tg s.heap I r (.int slot 0) i n ep) (hr:wE s.heap r es ep t) (hf:t.fits es.size=true) (hn:n=es.size)
 {res:Option (Value×Nat)} (hstep:∀(A:Around) (Q':Option (Value×Nat)→Shared→Prop) (E':Value→Shared→Prop),Q' res s→wpAny (model prog w) A (setNext r slot i ep) Q' E' s)
 (h1:∀x nx,res=some (x,nx)→∀h',tg h' I r (.int nx 0) (i+1) n ep→(∀b o,b≠I→s.heap.get? b=some o→h'.get? b=some o)→Q (some x) { s with heap:=h' })
 (h2:res=none→∀h',(∀b o,b≠I→s.heap.get? b=some o→h'.get? b=some o)→Q none { s with heap:=h' }):
 wpAny (model prog w) A (pyNext (.ref I)) Q E s:=by
 delta prog w A E s I r slot i n ep es t Q hh hit hr hf hn res hstep h1 h2 at ⊢
 obtain⟨o,ho,hex,hd⟩:=hr
 unfold pyNext
 refine wpAny_bind (wpAny_attempt (wpAny_callSpecial?_slot (name:=Str.ofString "__next__") hit.typeIs cg
  (wpAny_call_entry cg hit.typeIs jM ?_ (kB _))))
 unfold Builtin.«set_iterator.__next__» slotArgs
 simp -iota only[List.isEmpty_nil,Bool.not_true,Bool.false_eq_true,↓reduceIte,bind_assoc,List.length_nil,bne_self_eq_false]
 refine wpAny_bind (wpAny_pure ?_)
 refine wpAny_bind (wpAny_fieldsOf hit rfl ?_)
 dsimp only
 refine wpAny_bind (wpAny_setEntries_of ho hd hf ?_)
 erw[if_neg (by erw[hn];simp)]
 refine wpAny_bind (hstep _ _ _ ?_)
 cases res with
 | none=>
  dsimp only
  refine wpAny_bind (wpAny_setField_rec hit (by simp) fun h' e' sb=>?_)
  refine wpAny_mono (uB (s₁:={ s with heap:=h' }) (Q:=Q) hh fun h2' k=>h2 rfl h2' fun b o hb e=>k b o (by erw[sb.2 b hb];exact e)) (fun fin s' hq=>?_) fun e s' h=>h
  obtain⟨v,rfl,q⟩:=hq
  exact⟨v,rfl,wpAny_pure q⟩
 | some p=>
  obtain⟨x,nx⟩:=p
  dsimp only
  refine wpAny_bind (wpAny_setField_rec hit (by simp) fun h' e' sb=>?_)
  refine wpAny_bind (wpAny_setField_rec e' (by simp) fun h2' e2 sb2=>?_)
  refine wpAny_pure ⟨_,rfl,wpAny_pure (h1 x nx rfl h2' (by simpa [tg,rawInt] using e2) fun b o hb e=>by erw[sb2.2 b hb,sb.2 b hb];exact e)⟩
theorem lO {I r T:Addr} {i n ep m:Nat} {es:Array (Int×Value)} {t:SetTable} {js:List Nat} {Q:Option Value→Shared→Prop} (hh:A.handled=none) (hit:tg s.heap I r (.ref T) i n ep) (hr:wE s.heap r es ep t) (hf:t.fits es.size=true) (hn:n=es.size)
 (hT:s.heap.get? T=some (mD (js.map fun(j:Nat)=>rawInt j).toArray m))
 (h1:∀j x,js[i]?=some j→es[j]?=some x→∀h',tg h' I r (.ref T) (i+1) n ep→(∀b o,b≠I→s.heap.get? b=some o→h'.get? b=some o)→Q (some x.2) { s with heap:=h' })
 (hj:∀j,js[i]?=some j→j<es.size)
 (h2:js[i]?=none→∀h',(∀b o,b≠I→s.heap.get? b=some o→h'.get? b=some o)→Q none { s with heap:=h' }):
 wpAny (model prog w) A (pyNext (.ref I)) Q E s:=by
 delta prog w A E s I r T i n ep m es t js Q hh hit hr hf hn hT h1 hj h2 at ⊢
 injection hr with o ho hex hd
 unfold pyNext
 refine wpAny_bind (wpAny_attempt (wpAny_callSpecial?_slot (name:=Str.ofString "__next__") hit.typeIs cg
  (wpAny_call_entry cg hit.typeIs jM ?_ (kB _))))
 unfold Builtin.«set_iterator.__next__» slotArgs
 simp -iota only[List.isEmpty_nil,Bool.not_true,Bool.false_eq_true,↓reduceIte,bind_assoc,List.length_nil,bne_self_eq_false]
 refine wpAny_bind (wpAny_pure ?_)
 refine wpAny_bind (wpAny_fieldsOf hit rfl ?_)
 dsimp only
 refine wpAny_bind (wpAny_setEntries_of ho hd hf ?_)
 erw[if_neg (by erw[hn];simp)]
 refine wpAny_bind (wpAny_seqItems hT rfl ?_)
 dsimp only
 erw[List.getElem?_toArray,List.getElem?_map,Int.toNat_natCast]
 cases e:js[i]? with
 | none=>
  dsimp only[Option.map]
  refine wpAny_bind (wpAny_setField_rec hit (by simp) fun h' e' sb=>?_)
  refine wpAny_bind (wpAny_setField_rec e' (by simp) fun h'' e'' sb2=>?_)
  refine wpAny_mono (uB (s₁:={ s with heap:=h'' }) (Q:=Q) hh fun h2' k=>h2 e h2' fun b o hb e=>k b o (by erw[sb2.2 b hb,sb.2 b hb];exact e)) (fun fin s' hq=>?_) fun e s' h=>h
  injection hq with v rfl q
  exact⟨v,rfl,wpAny_pure q⟩
 | some j=>
  delta j at *
  dsimp only[Option.map,rawInt]
  have hlt:=hj j e
  have hx:es[j]?=some es[j]:=Array.getElem?_eq_getElem hlt
  unfold setNextDrawn
  refine wpAny_bind (wpAny_bind (wpAny_setState_of ho hd hf ?_))
  dsimp only
  erw[Int.toNat_natCast,Int.toNat_natCast,if_neg (by simp),hx]
  dsimp only
  refine wpAny_pure ?_
  refine wpAny_bind (wpAny_setField_rec hit (by simp) fun h' e' sb=>?_)
  exact wpAny_pure ⟨_,rfl,wpAny_pure (h1 j _ e hx h' (by simpa [tg,rawInt] using e') fun b o hb e=>by erw[sb.2 b hb];exact e)⟩
end
section
variable {prog:Program} {w:World} {A:Around} {E:Value→Shared→Prop} {s:Shared}
theorem mi {r:Addr} {es:Array (Int×Value)} {ep:Nat} {t:SetTable} {Q:Array (Int×Value)→Shared→Prop} (hr:wE s.heap r es ep t) (hf:t.fits es.size=true) (hb:w.params.followText "set-order" = true)
 (h:Q (pickOrder (w.params.setOrder r ep) es) s):wpAny (model prog w) A (setWalk r) Q E s:=by
 obtain⟨o,ho,_,hd⟩:=hr;unfold setWalk;refine wpAny_bind (wpAny_setState_of ho hd hf ?_);dsimp only;refine wpAny_bind (ir ?_);erw[hb,if_pos rfl];exact wpAny_bind (wpAny_askSetting (wpAny_pure h))
theorem ld {r:Addr} {es:Array (Int×Value)} {slot i ep:Nat} {t:SetTable} {Q:Option (Value×Nat)→Shared→Prop} (hr:wE s.heap r es ep t) (hf:t.fits es.size=true) (hb:w.params.followText "set-order" = true)
 (h:Q (((pickOrder (w.params.setOrder r ep) es)[i]?).map fun e=>(e.2,slot)) s):wpAny (model prog w) A (setNext r slot i ep) Q E s:=by
 obtain⟨o,ho,hx,hd⟩:=id hr;unfold setNext;refine wpAny_bind (wpAny_setState_of ho hd hf ?_);dsimp only;refine wpAny_bind (ir ?_);erw[hb,if_pos rfl,if_neg (by simp)];exact wpAny_bind (mi hr hf hb (wpAny_pure h))
theorem jR {r:Addr} {es:Array (Int×Value)} {slot i ep:Nat} {t:SetTable} {Q:Option (Value×Nat)→Shared→Prop} (hr:wE s.heap r es ep t) (hf:t.fits es.size=true) (hb:w.params.followText "set-order" = false) (hl:t.led=true) (hz:es.size≤1)
 (h:Q (match es[SetTable.below t.place slot]?,t.place[SetTable.below t.place slot]? with|some (_,x),some j=>some (x,j+1)|_,_=>none) s):wpAny (model prog w) A (setNext r slot i ep) Q E s:=by
 obtain⟨o,ho,hx,hd⟩:=id hr;unfold setNext;refine wpAny_bind (wpAny_setState_of ho hd hf ?_);dsimp only;refine wpAny_bind (ir ?_);erw[hb,if_neg (by decide)]
 have e1:(!t.plain&&decide (es.size>1))=false:=by
  have:decide (es.size>1)=false:=decide_eq_false (by exact Jf hz)
  erw[this,Bool.and_false]
 change wpAny _ _ (if(!t.plain&&decide (es.size>1))=true then _ else _) _ _ _;erw[e1,if_neg (by decide)];have e2:(!t.led&&!es.isEmpty)=false:=by erw[hl];rfl
 refine wpAny_bind ?_;change wpAny _ _ (if(!t.led&&!es.isEmpty)=true then _ else _) _ _ _;erw[e2,if_neg (by decide)];refine wpAny_pure ?_;exact wpAny_pure h
theorem tg.keep {h h':Heap} {I r:Addr} {first:Value} {i n ep:Nat} (x:tg h I r first i n ep) (k:∀o,h.get? I=some o→h'.get? I=some o):tg h' I r first i n ep:=k _ x
theorem wE.keep {h h':Heap} {r:Addr} {es:Array (Int×Value)} {ep:Nat} {t:SetTable} (x:wE h r es ep t) (k:∀o,h.get? r=some o→h'.get? r=some o):wE h' r es ep t:=let ⟨o,e,y⟩:=x;⟨o,k _ e,y⟩
theorem vz (hh:A.handled=none) {I r:Addr} (hne:r≠I) {es:Array (Int×Value)} {ep:Nat} {t:SetTable} (hf:t.fits es.size=true) (hb:w.params.followText "set-order" = true):
 Walks prog w A I [I,r] [I] es.size (fun i v=>((pickOrder (w.params.setOrder r ep) es).toList.map (fun U=>U.2))[i]?=some v) (fun i h=>tg h I r (.int (0:Nat) 0) i es.size ep∧wE h r es ep t) where
 sub:=fun b hb=>by simp at hb;simp[hb]
 frame:=fun U U U st hk=>⟨st.1.keep fun o e=>hk I (by simp) o e,st.2.keep fun o e=>hk r (by simp) o e⟩
 item:=fun i s Q E hi st hQ=>by
  have hl:(pickOrder (w.params.setOrder r ep) es).size=es.size:=by erw[←Array.length_toList,(jr _ es).length_eq,Array.length_toList]
  refine gf hh st.1 st.2 hf rfl (fun A Q' E' q=>ld st.2 hf hb q) (fun x nx e h' hit k=>?_) (fun e=>?_)
  ·rw[Option.map_eq_some_iff] at e
   obtain⟨p,e1,e2⟩:=e
   cases e2
   refine hQ _ h' s.toks ?_ ⟨hit,st.2.keep fun o eo=>k r o hne eo⟩ fun b o hb eo=>k b o (fun h=>hb (by simp[h])) eo
   erw[List.getElem?_map,Array.getElem?_toList,e1];rfl
  ·rw[Option.map_eq_none_iff,Array.getElem?_eq_none_iff] at e
   omega
 done:=fun s Q E st hQ=>by
  have hl:(pickOrder (w.params.setOrder r ep) es).size=es.size:=by erw[←Array.length_toList,(jr _ es).length_eq,Array.length_toList]
  refine gf hh st.1 st.2 hf rfl (fun A Q' E' q=>ld st.2 hf hb q) (fun x nx e h' hit k=>?_) (fun e h' k=>hQ h' s.toks fun b o hb eo=>k b o (fun h=>hb (by simp[h])) eo)
  rw[Option.map_eq_some_iff] at e
  obtain⟨p,e1,e2⟩:=e
  rw[Array.getElem?_eq_some_iff] at e1
  obtain⟨e1,_⟩:=e1
  omega
 self:=fun U U U U st q=>qz st.1 q
theorem tp (hh:A.handled=none) {I r T:Addr} (hne:r≠I) (hnT:T≠I) {m:Nat} {es:Array (Int×Value)} {ep:Nat} {t:SetTable} (hf:t.fits es.size=true) {js:List Nat} (hj:js.Perm (List.range es.size)):
 Walks prog w A I [I,r,T] [I] es.size (fun i v=>∃j,js[i]?=some j∧∃x,es[j]?=some x∧v=x.2) (fun i h=>tg h I r (.ref T) i es.size ep∧wE h r es ep t∧h.get? T=some (mD (js.map fun(j:Nat)=>rawInt j).toArray m)) where
 sub:=fun b hb=>by simp at hb;simp[hb]
 frame:=fun U U U st hk=>⟨st.1.keep fun o e=>hk I (by simp) o e,st.2.1.keep fun o e=>hk r (by simp) o e,hk T (by simp) _ st.2.2⟩
 item:=fun i s Q E hi st hQ=>by
  have hl:js.length=es.size:=by erw[hj.length_eq,List.length_range]
  refine lO hh st.1 st.2.1 hf rfl st.2.2 (fun j x e1 e2 h' hit k=>?_) (fun j e=>?_) fun e=>?_
  ·exact hQ _ h' s.toks ⟨j,e1,x,e2,rfl⟩ ⟨hit,st.2.1.keep fun o eo=>k r o hne eo,k T _ hnT st.2.2⟩ fun b o hb eo=>k b o (fun h=>hb (by simp[h])) eo
  ·exact List.mem_range.mp (hj.mem_iff.mp (List.mem_of_getElem? e))
  ·rw[List.getElem?_eq_none_iff] at e
   omega
 done:=fun s Q E st hQ=>by
  have hl:js.length=es.size:=by erw[hj.length_eq,List.length_range]
  refine lO hh st.1 st.2.1 hf rfl st.2.2 (fun j x e1 e2 h' hit k=>?_) (fun j e=>?_) fun e h' k=>hQ h' s.toks fun b o hb eo=>k b o (fun h=>hb (by simp[h])) eo
  ·rw[List.getElem?_eq_some_iff] at e1
   obtain⟨e1,_⟩:=e1
   omega
  ·exact List.mem_range.mp (hj.mem_iff.mp (List.mem_of_getElem? e))
 self:=fun U U U U st q=>qz st.1 q
theorem ql {xs:Array Nat} (h:xs.size=1) (j:Nat):SetTable.below xs j=if xs.getD 0 0<j then 1 else 0:=by
 have e:xs.getD 0 j=xs.getD 0 0:=by simp[Array.getD,h]
 erw[←e];unfold SetTable.below;erw[h];simp only[SetTable.below.go];rfl
theorem tn (hh:A.handled=none) {I r:Addr} (hne:r≠I) {es:Array (Int×Value)} {ep:Nat} {t:SetTable} (hf:t.fits es.size=true) (hb:w.params.followText "set-order" = false) (hl:t.led=true) (hz:es.size≤1):
 Walks prog w A I [I,r] [I] es.size (fun i v=>(es.toList.map (fun U=>U.2))[i]?=some v) (fun i h=>tg h I r (.int (if i=0 then 0 else t.place.getD 0 0+1:Nat) 0) i es.size ep∧wE h r es ep t) where
 sub:=fun b hb=>by simp at hb;simp[hb]
 frame:=fun U U U st hk=>⟨st.1.keep fun o e=>hk I (by simp) o e,st.2.keep fun o e=>hk r (by simp) o e⟩
 item:=fun i s Q E hi st hQ=>by
  have h0:i=0:=by exact Je hi hz
  subst h0
  have hps:t.place.size=1:=by
   simp only[SetTable.fits,Bool.and_eq_true,beq_iff_eq] at hf
   omega
  have st1:tg s.heap I r (.int (0:Nat) 0) 0 es.size ep:=st.1
  have hbl:SetTable.below t.place 0=0:=by erw[ql hps,if_neg (by exact BB)]
  have he:es[0]?=some es[0]:=Array.getElem?_eq_getElem hi
  have hp:t.place[0]?=some (t.place.getD 0 0):=by simp[Array.getD,hps]
  refine gf hh st1 st.2 hf rfl (res:=some (es[0].2,t.place.getD 0 0+1)) (fun A Q' E' q=>jR st.2 hf hb hl hz ?_) (fun x nx e h' hit k=>?_) (fun e=>by cases e)
  ·erw[hbl,he,hp];exact q
  ·cases e
   refine hQ _ h' s.toks ?_ ⟨hit,st.2.keep fun o eo=>k r o hne eo⟩ fun b o hb eo=>k b o (fun h=>hb (by simp[h])) eo
   erw[List.getElem?_map,Array.getElem?_toList,he];rfl
 done:=fun s Q E st hQ=>by
  refine gf hh st.1 st.2 hf rfl (res:=none) (fun A Q' E' q=>jR st.2 hf hb hl hz ?_) (fun x nx e=>by cases e) (fun e h' k=>hQ h' s.toks fun b o hb eo=>k b o (fun h=>hb (by simp[h])) eo)
  have hps:t.place.size=es.size:=by
   simp only[SetTable.fits,Bool.and_eq_true,beq_iff_eq] at hf
   omega
  rcases Nat.lt_or_ge es.size 1 with h0|h0
  ·have:es[SetTable.below t.place (if es.size=0 then 0 else t.place.getD 0 0+1)]?=none:=by erw[Array.getElem?_eq_none_iff];exact Jd h0
   erw[this];exact q
  ·have h1:es.size=1:=by exact Jb hz h0
   have hbl:SetTable.below t.place (if es.size=0 then 0 else t.place.getD 0 0+1)=1:=by erw[if_neg (by exact Ja h1),ql (by exact J9 hps h1),if_pos (by omega)]
   erw[hbl]
   have:es[1]?=none:=by erw[Array.getElem?_eq_none_iff];omega
   erw[this];exact q
 self:=fun U U U U st q=>qz st.1 q
end
section
variable {prog:Program} {w:World} {A:Around} {E:Value→Shared→Prop} {s:Shared}
theorem tV {es:Array (Int×Value)} {js:List Nat} (hj:js.Perm (List.range es.size)) {vs:List Value} (hl:vs.length=es.size) (h:∀(i:Nat) (v:Value),vs[i]?=some v→∃j,js[i]?=some j∧∃x:Int×Value,es[j]?=some x∧v=x.2):vs.Perm (es.toList.map (fun U=>U.2)):=by
 delta es js hj vs hl h at ⊢;have hjl:js.length=es.size:=by erw[hj.length_eq,List.length_range]
 have e1:vs=js.map fun j=>((es[j]?).map (fun U=>U.2)).getD .none:=by
  refine List.ext_getElem? fun i=>?_
  cases e:vs[i]? with
  | none=>
   rw[List.getElem?_eq_none_iff]at e;erw[List.getElem?_map,List.getElem?_eq_none (by exact J4 hjl hl e)];rfl
  | some v=>
   obtain⟨j,h1,x,h2,rfl⟩:=h i v e;erw[List.getElem?_map,h1];simp[h2]
 have e2:(List.range es.size).map (fun j=>((es[j]?).map (fun U=>U.2)).getD .none)=es.toList.map (fun U=>U.2):=by
  refine List.ext_getElem? fun i=>?_
  erw[List.getElem?_map,List.getElem?_map,Array.getElem?_toList (xs:=es)];cases e:es[i]? with
  | none=>
   rw[Array.getElem?_eq_none_iff]at e;erw[List.getElem?_eq_none (by erw[List.length_range];exact e)];rfl
  | some x=>
   have e0:=e
   rw[Array.getElem?_eq_some_iff]at e0;obtain⟨e0,_⟩:=e0;erw[List.getElem?_range e0];simp[e]
 erw[e1,←e2];exact hj.map _
theorem t4 {r:Addr} {us:List Str} {Q:Value→Shared→Prop} (hS:gb prog w s.heap r us) (hz:us.length+1<scanBound)
 (k:∀I h' d fp n (P:Nat→Value→Prop) (St:Nat→Heap→Prop),(∀b o,s.heap.get? b=some o→h'.get? b=some o)→s.heap.objs.size≤I→(∀b∈fp,b=r∨s.heap.objs.size≤b)→
  (∀A':Around,A'.handled=none→Walks prog w A' I fp [I] n P St)→St 0 h'→n≤us.length→
  (∀vs:List Value,vs.length=n→(∀i v,vs[i]?=some v→P i v)→∃ks,StrsAre vs ks∧ks.Nodup∧∀x,x∈ks↔x∈us)→Q (.ref I) { s with heap:=h',drawn:=d }):
 wpAny (model prog w) A (pyIter (.ref r)) Q E s:=by
 delta prog w A E s r us Q hS hz k at ⊢;injection hS with o es ep t ks ho hex hd hel hf hl hp hk hn hm hle;have h4:scanBound=4096:=rfl
 have hT:s.TypeIs (.ref r) "set":=⟨o,ho,hex.1⟩
 have hlt:=Heap.lt_size ho
 have hr:wE s.heap r es ep t:=⟨o,ho,hex,hd⟩
 have fin:∀vs:List Value,vs.Perm (es.toList.map (fun U=>U.2))→∃ks,StrsAre vs ks∧ks.Nodup∧∀x,x∈ks↔x∈us:=fun vs hv=>by
  obtain⟨ks',q1,q2⟩:=i7 hv hk;exact⟨ks',q1,(q2.nodup_iff).mpr hn,fun x=>(q2.mem_iff).trans (hm x)⟩
 have same:∀{vs us:List Value},vs.length=us.length→(∀i v,vs[i]?=some v→us[i]?=some v)→vs=us:=fun {vs us} h1 h2=>by
  refine List.ext_getElem? fun i=>?_
  cases e:vs[i]? with
  | none=>
   rw[List.getElem?_eq_none_iff]at e;erw[List.getElem?_eq_none (by exact IW h1 e)]
  | some v=>exact(h2 i v e).symm
 refine wpAny_pyIter_slot hT PySem.F.slot_set_iter (wpAny_call_entry PySem.F.slot_set_iter hT mT ?_ (PySem.F.args_set_iter_1 _));unfold Builtin.«frozenset.__iter__» Builtin.Frozenset.slot0 slotArgs;simp only[List.isEmpty_nil,Bool.not_true,Bool.false_eq_true,↓reduceIte,bind_assoc,List.length_nil,bne_self_eq_false];unfold Builtin.Frozenset.addrOf Builtin.Frozenset.sizeOf;refine wpAny_bind (wpAny_pure ?_);try dsimp only
 refine wpAny_bind (wpAny_pure ?_);refine wpAny_bind (wpAny_bind (wpAny_setEntries_of ho hd hf (wpAny_pure ?_)));unfold setDrawn;refine wpAny_bind (wpAny_bind (wpAny_setState_of ho hd hf ?_));dsimp only;refine wpAny_bind (ir ?_);refine wpAny_pure ?_;change wpAny _ _ (if(!(w.params.followText "set-order")&&(!t.plain&&decide (es.size>1)))=true then _ else _) _ _ _;cases hb:w.params.followText "set-order" with
 | true=>
  erw[if_neg (by simp)];refine wpAny_bind (wpAny_pure ?_);refine wpAny_bind (wpAny_setEpoch_of ho hd hf ?_);refine wpAny_bind (wpAny_newObj_type ?_);refine wpAny_pure ⟨_,rfl,"set_iterator",_,⟨_,Heap.get?_push_size _ rfl,rfl⟩,cg.lookup,?_⟩
  refine k _ _ s.drawn [s.heap.objs.size,r] es.size _ _ (fun b o e=>Heap.get?_push_of_some _ e) (Nat.le_refl _) (fun b hb=>(by simpa using hb:b=s.heap.objs.size∨b=r).elim (fun e=>.inr (Nat.le_of_eq e.symm)) .inl)
   (fun A' hA'=>vz hA' (Nat.ne_of_lt hlt) hf hb) ⟨Heap.get?_push_size _ rfl,hr.keep fun o e=>Heap.get?_push_of_some _ e⟩ hle fun vs h1 h2=>fin vs ?_
  have:=same (by erw[h1,List.length_map,(jr _ es).length_eq,Array.length_toList]) h2
  erw[this];exact(jr _ es).map _
 | false=>
  by_cases hc:es.size>1
  ·have hpl:=hp (by exact IV hc)
   erw[if_pos (by erw[hpl];simp[hc])];refine wpAny_bind (pu es.size (List.range es.size) (by erw[List.length_range]) ?_);delta js d hj;have hjl:js.length=es.size:=by erw[hj.length_eq,List.length_range]
   refine wpAny_bind (wpAny_newObj_type ?_ (by simp only[sizeOk];have:=sizeLine_eq;simp;exact DU this h4 hjl hle hz));have ho1:(s.heap.push (mD (js.map fun(j:Nat)=>rawInt j).toArray 0)).get? r=some o:=Heap.get?_push_of_some _ ho
   refine wpAny_bind (wpAny_setEpoch_of ho1 hd hf ?_);refine wpAny_bind (wpAny_newObj_type ?_);refine wpAny_pure ⟨_,rfl,"set_iterator",_,⟨_,Heap.get?_push_size _ rfl,rfl⟩,cg.lookup,?_⟩;have hsz:(s.heap.push (mD (js.map fun(j:Nat)=>rawInt j).toArray 0)).objs.size=s.heap.objs.size+1:=Heap.size_push _ _
   refine k _ _ d [_,r,s.heap.objs.size] es.size _ _ (fun b o e=>Heap.get?_push_of_some _ (Heap.get?_push_of_some _ e)) (by erw[hsz];omega) (fun b hb=>by
    rcases List.mem_cons.mp hb with e|hb
    ·right;erw[e];show s.heap.objs.size≤(s.heap.push (mD (js.map fun(j:Nat)=>rawInt j).toArray 0)).objs.size;erw[hsz];exact Nat.le_succ _
    ·rcases List.mem_cons.mp hb with e|hb
     ·exact .inl e
     ·exact .inr (Nat.le_of_eq (List.mem_singleton.mp hb).symm))
    (fun A' hA'=>tp hA' (Nat.ne_of_lt (by erw[hsz];exact Nat.lt_succ_of_lt hlt)) (Nat.ne_of_lt (by erw[hsz];exact Nat.lt_succ_self _)) hf hj) ⟨Heap.get?_push_size _ rfl,hr.keep fun o e=>Heap.get?_push_of_some _ (Heap.get?_push_of_some _ e),Heap.get?_push_of_some _ (Heap.get?_push_size _ rfl)⟩ hle fun vs h1 h2=>fin vs ?_
   exact tV hj h1 h2
  ·erw[if_neg (by simp[hc])];refine wpAny_bind (wpAny_pure ?_);refine wpAny_bind (wpAny_setEpoch_of ho hd hf ?_);refine wpAny_bind (wpAny_newObj_type ?_);refine wpAny_pure ⟨_,rfl,"set_iterator",_,⟨_,Heap.get?_push_size _ rfl,rfl⟩,cg.lookup,?_⟩
   refine k _ _ s.drawn [s.heap.objs.size,r] es.size _ _ (fun b o e=>Heap.get?_push_of_some _ e) (Nat.le_refl _) (fun b hb=>(by simpa using hb:b=s.heap.objs.size∨b=r).elim (fun e=>.inr (Nat.le_of_eq e.symm)) .inl)
    (fun A' hA'=>tn hA' (Nat.ne_of_lt hlt) hf hb (by erw[hl,hb];rfl) (by exact IU hc)) ⟨Heap.get?_push_size _ rfl,hr.keep fun o e=>Heap.get?_push_of_some _ e⟩ hle fun vs h1 h2=>fin vs ?_
   have:=same (by erw[h1,List.length_map,Array.length_toList]) h2
   erw[this]
theorem y3 {r:Addr} {Q:Bool→Shared→Prop} (hT:s.TypeIs (.ref r) "set") (h:Q false s):wpAny (model prog w) A (Builtin.List.listLengthHint (.ref r)) Q E s:=by
 delta prog w A E s r Q hT h at ⊢;unfold Builtin.List.listLengthHint;refine wpAny_bind (wpAny_specialOf hT PySem.F.slot_set_len.lookup ?_);generalize hid:("set.__len__" :String)=id0;wp_delta;erw[show splitId id0=some ("set","__len__")from by subst hid;decide +kernel];subst hid;refine wpAny_bind (wpAny_isInstance (T:="set") (b:=true) hT (by erw[isSubtype_type];nofun) ?_);refine wpAny_ite_split (fun hab=>absurd hab (by decide)) (fun U=>?_);refine wpAny_ite_split (fun U=>?_) (fun hab=>absurd (by decide +kernel) hab);refine wpAny_bind (wpAny_typeOf hT ?_);exact wpAny_pure h
end
section
variable {prog:Program} {w:World} {A:Around} {s:Shared}
theorem gb.keep {h h':Heap} {a:Addr} {us:List Str} (x:gb prog w h a us) (k:∀o,h.get? a=some o→h'.get? a=some o):gb prog w h' a us:=by
 obtain⟨o,es,ep,t,ks,ho,rest⟩:=x;exact⟨o,es,ep,t,ks,k _ ho,rest⟩
theorem gb.typeIs {a:Addr} {us:List Str} (x:gb prog w s.heap a us):s.TypeIs (.ref a) "set":=by
 obtain⟨o,es,ep,t,ks,ho,hex,rest⟩:=x;exact⟨o,ho,hex.1⟩
theorem gb.lt {h:Heap} {a:Addr} {us:List Str} (x:gb prog w h a us):a<h.objs.size:=by
 obtain⟨o,es,ep,t,ks,ho,rest⟩:=x;exact Heap.lt_size ho
theorem tO {P:Nat→Value→Prop} {acc:Array Value} {n:Nat} (h:ItemsOf P acc n):acc.toList.length=n∧∀i v,acc.toList[i]?=some v→P i v:=
 ⟨by erw[Array.length_toList];exact h.1,fun i v e=>h.2 i v (by erw[←Array.getElem?_toList];exact e)⟩
theorem ty {r D:Addr} {us:List Str} {R:Result→Shared→Prop} {E:Value→Shared→Prop} (hh:A.handled=none) (hS:gb prog w s.heap r us) (hz:us.length+1<scanBound) (hDr:D≠r) (res:Value) (c₀:Nat) (hD:s.heap.get? D=some { cls:=.type "list",data:=.seq #[] c₀ })
 (hR:∀h' tk d acc' c' ks,(∀b o,b≠D→s.heap.get? b=some o→h'.get? b=some o)→h'.get? D=some { cls:=.type "list",dict:=none,data:=.seq acc' c',slots:=#[] }→StrsAre acc'.toList ks→ks.Nodup→(∀x,x∈ks↔x∈us)→R (.ok (.ret res)) { s with heap:=h',toks:=tk,drawn:=d }):
 wpAny (model prog w) A.in1 (Builtin.List.listExtendWith (.ref D) (.ref r) res)
  (fun fin s'=>match fin with|.done f=>R (.ok f) s'|.again c'=>c'.quiet=true∧codeAny (model prog w) A c' R s') (fun e s'=>R (.error e) s') s:=by
 delta prog w A s r D us R E res c₀ at hh hS hz hDr hD hR;have h4:scanBound=4096:=rfl
 have hDlt:=Heap.lt_size hD
 unfold Builtin.List.listExtendWith;refine wpAny_bind (wpAny_typeOf (T:="set") hS.typeIs ?_);have h1:Builtin.List.listSameRef (.ref D) (.ref r)=false:=by simp[Builtin.List.listSameRef,hDr]
 have h2:(Value.type "set" == Value.type "list")=false:=by decide
 have h3:(Value.type "set" == Value.type "tuple")=false:=by decide
 simp only[h1,h2,h3,Bool.or_false,Bool.false_eq_true,if_false];refine wpAny_bind (t4 hS hz fun I h' d fp n P St k hI hfp W st hn hv=>?_);have hDf:D∉fp:=fun hm=>(hfp D hm).elim hDr fun h=>Nat.not_lt.mpr h hDlt
 have key:∀(h:Heap) (c₁ tk:Nat),St 0 h→(∀b o,b≠D→s.heap.get? b=some o→h.get? b=some o)→
  h.get? D=some { cls:=.type "list",data:=.seq #[] c₁ }→codeAny (model prog w) A (.builtin "list.extend.loop" ⟨[.ref D,.ref I,res],[]⟩) R { s with heap:=h,toks:=tk,drawn:=d }:=by
  intro h c₁ tk hst hk hS₁;refine codeAny_extend_loopS (W A.in1 hh).toS (by erw[sizeLine_eq];exact DT h4 hn hz) D hDf res n 0 _ #[] c₁ rfl (Nat.zero_le _) hst hS₁ (ItemsOf.nil _) fun s' acc' c' hm hS' hacc=>?_
  obtain⟨g1,g2⟩:=tO hacc;obtain⟨ks,q1,q2,q3⟩:=hv _ g1 g2;erw[Moved.eq_with hm];refine hR s'.heap s'.toks d acc' c' ks (fun b o hb e=>hm.heap b o (fun hmem=>?_) (hk b o hb e)) hS' q1 q2 q3;rcases List.mem_cons.mp hmem with e'|hmem
  ·exact hb e'
  ·exact absurd (Heap.lt_size e) (by erw[List.mem_singleton.mp hmem];exact Nat.not_lt.mpr hI)
 have hD1:=k _ _ hD
 refine wpAny_bind (wpAny_holding (y3 (gb.typeIs (s:={ s with heap:=h',drawn:=d }) (hS.keep (k r))) ?_));refine wpAny_ite_split (fun U=>?_) (fun U=>wpAny_pure ⟨plainId_quiet PySem.F.plain_extend_loop _,key _ c₀ _ st (fun b o U e=>k b o e) hD1⟩);refine wpAny_bind (wpAny_rule ?_);refine wpAny_bind ?_;show wpAny _ _ (updateSeq D (·.push .none) >>= fun U=>updateSeq D (·.pop)) _ _ _
 refine wpAny_bind (wpAny_updateSeq hD1 rfl ?_);have hS₂:=Heap.get?_update_self (Obj.mapSeq (·.push Value.none)) hD1 rfl
 refine wpAny_updateSeq (hz:=by seq_fits) hS₂ rfl ?_;have hS₃:=Heap.get?_update_self (Obj.mapSeq (·.pop)) hS₂ rfl
 refine wpAny_pure ⟨plainId_quiet PySem.F.plain_extend_loop _,key _ _ _ ?_ (fun b o hb e=>?_) hS₃⟩
 ·refine(W A.in1 hh).frame 0 _ _ st fun b hb o e=>?_
  have hbS:b≠D:=fun h=>hDf (h▸hb)
  exact(Heap.get?_update_other _ _ (Ne.symm hbS)).trans ((Heap.get?_update_other _ _ (Ne.symm hbS)).trans e)
 ·exact(Heap.get?_update_other _ _ (Ne.symm hb)).trans ((Heap.get?_update_other _ _ (Ne.symm hb)).trans (k b o e))
theorem rO {r:Addr} {us:List Str} {R:List Value→Shared→Prop} (hh:A.handled=none) (hS:gb prog w s.heap r us) (hz:us.length+1<scanBound)
 (h:∀(h':Heap) (tk:Nat) (d:Drawn) (vs:List Value) (ks:List Str),(∀b o,s.heap.get? b=some o→h'.get? b=some o)→StrsAre vs ks→ks.Nodup→(∀x,x∈ks↔x∈us)→R vs { s with heap:=h',toks:=tk,drawn:=d }):
 wpAny (model prog w) A (collect (.ref r)) R ft s:=by
 delta prog w A s r us R at hh hS hz h
 unfold collect
 refine wpAny_bind (wpAny_runValue (codeAny_builtin entry_proto_collect' ?_))
 erw[Around.under_plainId PySem.F.plain_proto_collect _]
 show wpAny _ A.in1 (newList [] >>= fun l=>again (.builtin "list.__iadd__" ⟨[l,.ref r],[]⟩)) _ _ s
 refine wpAny_bind (wpAny_newObj_type ?_)
 refine wpAny_pure ⟨plainId_quiet PySem.F.plain_list_iadd _,codeAny_builtin entry_list_iadd' ?_⟩
 erw[Around.under_plainId PySem.F.plain_list_iadd _]
 have hS₁:(s.heap.push { cls:=.type "list",data:=.seq ([]:List Value).toArray }).get? s.heap.objs.size=some { cls:=.type "list",data:=.seq #[] }:=Heap.get?_push_size _ rfl
 show wpAny _ A.in1 (Builtin.List.listExtendWith (.ref s.heap.objs.size) (.ref r) (.ref s.heap.objs.size)) _ _ _
 have key:=ty (A:=A) (E:=ft) (s:={ s with heap:=s.heap.push { cls:=.type "list",data:=.seq ([]:List Value).toArray } })
  (R:=fun(q:Result) (s':Shared)=>∃(h':Heap) (tk:Nat) (d:Drawn) (acc':Array Value) (c':Nat) (ks:List Str),q=.ok (.ret (.ref s.heap.objs.size))∧s'={ s with heap:=h',toks:=tk,drawn:=d }∧
   (∀b o,s.heap.get? b=some o→h'.get? b=some o)∧h'.get? s.heap.objs.size=some { cls:=.type "list",dict:=none,data:=.seq acc' c',slots:=#[] }∧StrsAre acc'.toList ks∧ks.Nodup∧∀x,x∈ks↔x∈us)
  hh (hS.keep fun o e=>Heap.get?_push_of_some _ e) hz (Nat.ne_of_gt hS.lt) (.ref s.heap.objs.size) 0 hS₁
  (fun h' tk d acc' c' ks hk hS' q1 q2 q3=>⟨h',tk,d,acc',c',ks,rfl,rfl,fun b o e=>hk b o (Nat.ne_of_lt (Heap.lt_size e)) (Heap.get?_push_of_some _ e),hS',q1,q2,q3⟩)
 refine wpAny_mono key (fun fin s' x=>?_) fun e s' x=>?_
 ·cases fin with
  | done f=>
   obtain⟨h',tk,d,acc',c',ks,e,rfl,hk,hS',q1,q2,q3⟩:=x
   cases e
   show wpAny _ A (load s.heap.objs.size >>= _) _ _ _
   refine wpAny_bind (wpAny_load hS' ?_)
   exact wpAny_pure (h h' tk d acc'.toList ks hk q1 q2 q3)
  | again c₁=>
   refine⟨x.1,codeAny_mono x.2 fun q s₂ y=>?_⟩
   obtain⟨h',tk,d,acc',c',ks,rfl,rfl,hk,hS',q1,q2,q3⟩:=y
   show wpAny _ A (load s.heap.objs.size >>= _) _ _ _
   refine wpAny_bind (wpAny_load hS' ?_)
   exact wpAny_pure (h h' tk d acc'.toList ks hk q1 q2 q3)
 ·obtain⟨_,_,_,_,_,_,e',_⟩:=x
  cases e'
theorem lN:∀{ks us:List Str},ks.Nodup→(∀x∈ks,x∈us)→ks.length≤us.length
 | [],_,_,_=>Nat.zero_le _
 | k::ks,us,hn,h=>by
  have h1:=h k (.head _)
  rw[List.nodup_cons]at hn;have:=lN (us:=us.erase k) hn.2 fun x hx=>(List.mem_erase_of_ne (fun e:x=k=>hn.1 (by erw[←e];exact hx))).mpr (h x (.tail _ hx))
  rw[List.length_erase_of_mem h1]at this;have:=List.length_pos_of_mem h1
  simp only[List.length_cons];exact IT this (by assumption)
theorem pt {r:Addr} {us:List Str} {Q:Value→Shared→Prop} (hh:A.handled=none) (hS:gb prog w s.heap r us) (hz:us.length<64)
 (h:∀(h' h'':Heap) (tk:Nat) (d:Drawn) (out:Array Value) (e:Nat) (us':List Str),(∀b o,s.heap.get? b=some o→h'.get? b=some o)→(∀b o,h'.get? b=some o→h''.get? b=some o)→h''.get? h'.objs.size=some (seqObj "list" out e)→
  StrsAre out.toList us'→us'.Nodup→(∀x,x∈us'↔x∈us)→sortedS us'=true→Q (.ref h'.objs.size) { s with heap:=h'',toks:=tk,drawn:=d }):
 wpAny (model prog w) A (call (.builtin "sorted") [.ref r]) Q ft s:=by
 have h4:scanBound=4096:=rfl
 refine call_function_entry kind_sorted plain_sorted entry_sorted (args_sorted1 _) ?_;unfold Builtin.«sorted»;refine wpAny_bind (m:=checkCount "sorted" 1 1 _) (wpAny_pure ?_);refine wpAny_bind (dN (rO (A:=A.in1) hh hS (by exact DS h4 hz) fun h' tk d vs ks hk q1 q2 q3=>?_))
 have hlen:vs.length<64:=by
  erw[kN q1];have:ks.length≤us.length:=lN q2 fun x hx=>(q3 x).mp hx
  omega
 refine wpAny_bind (wpAny_newList ?_ (by erw[sizeLine_eq];exact IS hlen));have hoL:(h'.push (seqObj "list" vs.toArray 0)).get? h'.objs.size=some (seqObj "list" vs.toArray 0):=Heap.get?_push_size _ rfl
 refine wpAny_bind (wpAny_holding (wpAny_call_entry slot_list_sort ⟨_,hoL,rfl⟩ entry_list_sort ?_ (args_list_sort _)));refine list_sort_treeK (s:={ s with heap:=h'.push (seqObj "list" vs.toArray 0),toks:=tk,drawn:=d }) strKind_oneLt hoL q1.keysOf (fun v₁ v₂ rest e=>keyKind_strs (by erw[←e];exact q1)) hlen fun st' hp hs=>?_
 obtain⟨ss',g1,g2,g3⟩:=sorted_out_str q1 hp hs;refine⟨_,rfl,wpAny_pure ⟨_,rfl,?_⟩⟩;obtain⟨e,he⟩:=sortedHeap_at hoL;refine h h' _ tk d _ e ss' hk (fun b o e1=>?_) he g1 ((g2.nodup_iff).mpr q2) (fun x=>(g2.mem_iff).trans (q3 x)) g3;have hb:=Heap.lt_size e1
 erw[sortedHeap_old (Nat.ne_of_lt hb) (by erw[size_push'];exact Nat.lt_succ_of_lt hb),Heap.get?_push_ne _ _ _ (Nat.ne_of_lt hb)];exact e1
end
def Op.name:Op→Str
 | .subi=>"SUBI" | .str=>"STR" | .movi=>"MOVI" | .ldr=>"LDR" | .addi=>"ADDI" | .mov=>"MOV"
def aN.op:aN→Str
 | .reg op ..=>op.name|.bl ..=>"BL" | .br ..=>"BR"
def aN.one:aN→V
 | .reg _ a _ _=>.int a|.bl ..=>.str "AL" | .br ..=>.str "AL"
def aN.two:aN→Int
 | .reg _ _ b _=>b|.bl t _=>t|.br r _=>r
def aN.three:aN→Int
 | .reg _ _ _ k=>k|.bl _ k=>k|.br _ k=>k
abbrev aN.v (r:aN):V:=.tup [.str r.op,r.one,.int r.two,.int r.three]
def aN.isBL:aN→Bool|.bl ..=>true|_=>false
def aN.isBR:aN→Bool|.br ..=>true|_=>false
abbrev eC (rs:List aN):V:=.lst (rs.map aN.v)
theorem w7 (r:aN):(r.op==("B" :Str))=false:=by cases r with|reg op a b k=>cases op<;>nofun|_=>nofun
theorem sk (r:aN):(r.op==("BL" :Str))=r.isBL:=by cases r with|reg op a b k=>cases op<;>nofun|_=>nofun
theorem Kw (r:aN):(r.op==("BR" :Str))=r.isBR:=by cases r with|reg op a b k=>cases op<;>nofun|_=>nofun
theorem zq (r:aN):(r.op==("TRAP" :Str))=false:=by cases r with|reg op a b k=>cases op<;>nofun|_=>nofun
theorem fO {n:Nat} {t:Expr} {ts:List Expr} {v:V} {vs:List V} {η:aI} {σ:aj} {Q:aI→aj→Prop} (h:TA n t v η σ fun η' σ'=>BH n ts vs η' σ' Q):BH n (t::ts) (v::vs) η σ Q:=h
theorem qr {n:Nat} {η:aI} {σ:aj} {Q:aI→aj→Prop} (h:Q η σ):BH n [] [] η σ Q:=h
theorem KB {p q:Prop} (h:p):if true=true then p else q:=by simpa using h
theorem KC {p q:Prop} (h:q):if false=true then p else q:=by simpa using h
theorem aG {p q:Prop} {b:Bool} (e:b=true) (h:p):if b=true then p else q:=by erw[e];simpa using h
theorem ak {p q:Prop} {b:Bool} (e:b=false) (h:q):if b=true then p else q:=by erw[e];simpa using h
theorem Co {p q:Prop} (h:p):if(!false)=true then p else q:=by simpa using h
theorem Cn {p q:Prop} (h:q):if(!true)=true then p else q:=by simpa using h
theorem ek {p q P:Prop} [Decidable P] (h1:P→p) (h2:¬P→q):if decide P=true then p else q:=by
 by_cases h:P
 ·simpa [h]using h1 h
 ·simpa [h]using h2 h
theorem xO {p q:Prop} {b:Bool} (h1:b=true→p) (h2:b=false→q):if b=true then p else q:=by
 cases b
 ·simpa using h2 rfl
 ·simpa using h1 rfl
theorem Cp {p q:Prop} {b:Bool} (h1:b=false→p) (h2:b=true→q):if(!b)=true then p else q:=by
 cases b
 ·simpa using h1 rfl
 ·simpa using h2 rfl
section
variable (hK:S.K=hp.heap_1 S.w.params) {n:Nat} {σ:aj} {Q:V→aj→Prop}
include hK
theorem sV {r:aN} (q:Q (.bool r.isBL) σ):TF (n+1) 94 [r.v] σ Q:=by
 refine aW (by erw[hK];rfl) rfl rfl (by erw[hK];nofun) (by nofun) (by nofun) (kO fun U=>rfl) fun c=>?_
 fail "j";refine' bq (tq (BO ?_));erw[w7];simp only[Bool.false_eq_true,if_false];fail "w";erw[sk];exact q
theorem jc {r:aN} {i:Int} (q:Q (.int (i+1+r.two)) σ):TF (n+1) 101 [r.v,.int i] σ Q:=by
 refine aW (by erw[hK];rfl) rfl rfl (by erw[hK];nofun) (by nofun) (by nofun) (pn fun U U=>rfl) fun c=>?_
 fail "j";fail "w";exact q
theorem mf {r:aN} (q:Q (.bool (!r.isBR)) σ):TF (n+1) 108 [r.v] σ Q:=by
 delta hK n σ Q r q at ⊢;refine aW (by erw[hK];rfl) rfl rfl (by erw[hK];nofun) (by nofun) (by nofun) (kO fun U=>rfl) fun c=>?_
 fail "j";fail "w";erw[w7];simp only[Bool.false_eq_true,if_false];fail "w";erw[Kw];cases hb:r.isBR with
 | true=>
  simp only[if_true];cases r with
  | br r k=>
   fail "w";refine qu ?_;rw[hb] at q;exact q
  | _=>cases hb
 | false=>
  simp only[Bool.false_eq_true,if_false];fail "w";refine' aw ?_;erw[zq];simp only[Bool.false_eq_true,if_false];refine' aw ?_;rw[hb] at q;exact q
theorem uc {t k:Int} (q:Q (.bool true) σ):TF (n+1) 115 [(aN.bl t k).v] σ Q:=by
 refine aW (by erw[hK];rfl) rfl rfl (by erw[hK];nofun) (by nofun) (by nofun) (kO fun U=>rfl) fun c=>?_
 fail "j";fail "w";refine qu ?_;exact q
end
structure kq:Prop where
 hK:S.K=hp.heap_1 S.w.params
 vGRAIN:∃t,S.glob "GRAIN" (.int 16 t)
 vWORDS:∃t,S.glob "WORDS" (.int 4294967296 t)
 g_len:S.glob "len" (.builtin "len")∧aA S.K (.builtin "len")=true
 g_sorted:S.glob "sorted" (.builtin "sorted")∧aA S.K (.builtin "sorted")=true
 g_range:S.glob "range" (.type "range")∧aA S.K (.type "range")=true
 g_dict:S.glob "dict" (.type "dict")∧aA S.K (.type "dict")=true
 g_list:S.glob "list" (.type "list")∧aA S.K (.type "list")=true
 g_str:S.glob "str" (.type "str")∧aA S.K (.type "str")=true
 g_int:S.glob "int" (.type "int")∧aA S.K (.type "int")=true
 g_abs:S.glob "abs" (.builtin "abs")∧aA S.K (.builtin "abs")=true
 g_sum:S.glob "sum" (.builtin "sum")∧aA S.K (.builtin "sum")=true
 g_set:S.glob "set" (.type "set")∧aA S.K (.type "set")=true
 g_ObjectFile:S.glob "ObjectFile" (.ref 83)∧aA S.K (.ref 83)=true
 g_Bases:S.glob "Bases" (.ref 256)∧aA S.K (.ref 256)=true
 g_is_branch:S.glob "is_branch" (.ref 94)∧aA S.K (.ref 94)=true
 g_target_of:S.glob "target_of" (.ref 101)∧aA S.K (.ref 101)=true
 g_falls_through:S.glob "falls_through" (.ref 108)∧aA S.K (.ref 108)=true
 g_can_jump:S.glob "can_jump" (.ref 115)∧aA S.K (.ref 115)=true
 g_successors:S.glob "successors" (.ref 122)∧aA S.K (.ref 122)=true
 g_called_rows:S.glob "called_rows" (.ref 129)∧aA S.K (.ref 129)=true
 g_reach_rows:S.glob "reach_rows" (.ref 134)∧aA S.K (.ref 134)=true
 g_imported_calls:S.glob "imported_calls" (.ref 141)∧aA S.K (.ref 141)=true
 g_own_addresses:S.glob "own_addresses" (.ref 148)∧aA S.K (.ref 148)=true
 g_new_places:S.glob "new_places" (.ref 155)∧aA S.K (.ref 155)=true
 g_moved_row:S.glob "moved_row" (.ref 162)∧aA S.K (.ref 162)=true
 g_moved_rows:S.glob "moved_rows" (.ref 169)∧aA S.K (.ref 169)=true
 g_moved_maps:S.glob "moved_maps" (.ref 176)∧aA S.K (.ref 176)=true
 g_remap:S.glob "remap" (.ref 183)∧aA S.K (.ref 183)=true
 g_table_rows:S.glob "table_rows" (.ref 190)∧aA S.K (.ref 190)=true
 g_start_rows:S.glob "start_rows" (.ref 197)∧aA S.K (.ref 197)=true
 g_without_dead:S.glob "without_dead" (.ref 204)∧aA S.K (.ref 204)=true
 g_needed_modules:S.glob "needed_modules" (.ref 211)∧aA S.K (.ref 211)=true
 g_visit:S.glob "visit" (.ref 218)∧aA S.K (.ref 218)=true
 g_found_object:S.glob "found_object" (.ref 225)∧aA S.K (.ref 225)=true
 g_row_of_command:S.glob "row_of_command" (.ref 232)∧aA S.K (.ref 232)=true
 g_grown:S.glob "grown" (.ref 267)∧aA S.K (.ref 267)=true
 g_join_rows:S.glob "join_rows" (.ref 274)∧aA S.K (.ref 274)=true
 g_join_data:S.glob "join_data" (.ref 281)∧aA S.K (.ref 281)=true
 g_join_body:S.glob "join_body" (.ref 288)∧aA S.K (.ref 288)=true
 g_shaken:S.glob "shaken" (.ref 295)∧aA S.K (.ref 295)=true
 g_link:S.glob "link" (.ref 300)∧aA S.K (.ref 300)=true
 g__law_draw:S.glob "_law_draw" (.ref 307)∧aA S.K (.ref 307)=true
 g__law_pool:S.glob "_law_pool" (.ref 312)∧aA S.K (.ref 312)=true
 g__law_world:S.glob "_law_world" (.ref 317)∧aA S.K (.ref 317)=true
 g__law_files:S.glob "_law_files" (.ref 322)∧aA S.K (.ref 322)=true
 g__law_needed:S.glob "_law_needed" (.ref 329)∧aA S.K (.ref 329)=true
 g__law_told:S.glob "_law_told" (.ref 336)∧aA S.K (.ref 336)=true
 g__law_ran:S.glob "_law_ran" (.ref 343)∧aA S.K (.ref 343)=true
section
variable {n:Nat} {η:aI} {σ:aj} {Q:V→aj→Prop}
theorem aa {f:Str} {fp pos:Pos} {e:Expr} {rest:List Expr} {g:Value} (h:gx η f .glb) (hg:S.glob f g∧aA S.K g=true) (ha:rq n (e::rest) η σ fun vs σ₁=>TL n (fun xs=>PySem.call g xs) vs σ₁ Q)
 (he:autoParam (∀env,eval (.Call (.Name f fp) (e::rest) [] pos) env=(do callWith pos (←eval (.Name f fp) env) [] (backTo pos (starEach (e::rest) env)) [])) tI)
 (hst:autoParam (∀env,starEach (e::rest) env=(false,eval e env)::starEach rest env) tI) (hany:autoParam (∀env pos,(backTo pos (starEach rest env)).any (fun U=>U.1)=false) tI):TE n (.Call (.Name f fp) (e::rest) [] pos) η σ Q:=
 yI h hg.1 hg.2 ha he hst hany
end
def fb (r:aN) (i len:Nat):List Nat:=if(!r.isBR)&&decide (i+1<len)then[i+1]else[]
def cJ (r:aN) (i len:Nat):List Nat:=match r with
 | .bl t _=>if 0≤(i:Int)+1+t∧(i:Int)+1+t<len then[((i:Int)+1+t).toNat]else[]
 | _=>[]
abbrev iA (l:List Nat):V:=.lst (l.map fun j=>V.int (j:Nat))
theorem uD {rs:List aN} {i:Nat} {r:aN} (h:rs[i]?=some r):(rs.map aN.v)[((i:Nat):Int).toNat]?=some r.v:=by simp[h]
section
variable (C:kq) {n:Nat} {σ:aj} {Q:V→aj→Prop}
include C
theorem uz {us us':List Int} (h:us'.Perm us) (hl:us.length≤1):us'=us:=by
 match us,hl with
 | [],_=>exact h.eq_nil
 | [x],_=>exact List.perm_singleton.mp h
omit C
include C
theorem r6 {rs:List aN} {i:Nat} {r:aN} (hr:rs[i]?=some r) (hz:rs.length≤1000) (q:Q (iA (fb r i rs.length)) σ):TF (n+5) 122 [eC rs,.int (i:Nat)] σ Q:=by
 delta C n σ Q rs i r hr hz q at ⊢;have hK:=C.hK
 have hil:i<rs.length:=by rw[List.getElem?_eq_some_iff] at hr;exact hr.1
 refine aW (by erw[hK];rfl) rfl rfl (by erw[hK];nofun) (by nofun) (by nofun) (pn fun U U=>rfl) ?_;delta c;fail "j";fail "w";refine' al (by fail "c") (uD hr) (by exact hU) (by exact rt hil hz) ?_;refine' b8 ?_;refine⟨by decide,?_⟩;delta a;fail "w";refine' iH (aa (by fail "a") C.g_falls_through ?_);refine' aJ (mf hK ?_);refine Cp (fun hb=>?_) (fun hb=>?_)
 ·fail "w";fail "x";erw[List.length_map];refine ek (fun hl=>?_) (fun hl=>?_)
  ·fail "w";fail "t";refine am (by fail "b") (by simp) ?_;simp only[List.nil_append];fail "w";refine' aw ?_;erw[w7];fail "w";refine' aw ?_;refine' bA (aa (by fail "a") C.g_sorted ?_);refine dH (us:=([(i:Int)+1]:List Int)) (gW (us:=[V.int ((i:Int)+1)]) (by fail "c") (by simp) fun B vs h=>cf.ints (us:=([(i:Int)+1]:List Int)) h) (by simp) ?_;delta us' a' hp;intro _;obtain rfl:=uz C hp (by simp);refine⟨_,_,(ay.lst (by fail "l")).trans (.drop (σ':=σ) (by fail "r")),?_⟩;have e:fb r i rs.length=[i+1]:=by simp[fb,hb];exact GJ hl hil
   rw[e] at q;exact q
  ·refine' aw ?_;erw[w7];fail "w";refine' aw ?_;refine' bA (aa (by fail "a") C.g_sorted ?_);refine dH (us:=([]:List Int)) (gW (us:=([]:List V)) (by fail "c") (by simp) fun B vs h=>cf.ints (us:=([]:List Int)) h) (by simp) ?_;delta us' a' hp;intro _;obtain rfl:=uz C hp (by simp);refine⟨_,_,(ay.lst (by fail "l")).trans (.drop (σ':=σ) (by fail "r")),?_⟩;have e:fb r i rs.length=[]:=by simp[fb,hb];exact GI hil hl
   rw[e] at q;exact q
 ·refine' aw ?_;erw[w7];fail "w";refine' aw ?_;refine' bA (aa (by fail "a") C.g_sorted ?_);refine dH (us:=([]:List Int)) (gW (us:=([]:List V)) (by fail "c") (by simp) fun B vs h=>cf.ints (us:=([]:List Int)) h) (by simp) ?_;delta us' a' hp;intro _;obtain rfl:=uz C hp (by simp);refine⟨_,_,(ay.lst (by fail "l")).trans (.drop (σ':=σ) (by fail "r")),?_⟩;have e:fb r i rs.length=[]:=by simp[fb,hb]
  rw[e] at q;exact q
theorem yi {rs:List aN} {i:Nat} {r:aN} (hr:rs[i]?=some r) (hz:rs.length≤1000) (q:Q (iA (cJ r i rs.length)) σ):TF (n+5) 129 [eC rs,.int (i:Nat)] σ Q:=by
 delta C n σ Q rs i r hr hz q at ⊢;have hK:=C.hK
 have hil:i<rs.length:=by rw[List.getElem?_eq_some_iff]at hr;exact hr.1
 refine aW (by erw[hK];rfl) rfl rfl (by erw[hK];nofun) (by nofun) (by nofun) (pn fun U U=>rfl) ?_;delta c;fail "j";fail "w";refine' al (by fail "c") (uD hr) (by exact hU) (by exact rt hil hz) ?_;erw[sk];refine xO (fun hb=>?_) (fun hb=>?_)
 ·cases r with
  | bl t k=>
   delta t k at *;fail "w";refine' iH (aa (by fail "a") C.g_can_jump ?_);refine' aJ (uc hK ?_);refine' aa (by fail "a") C.g_target_of ?_;refine' aJ (jc hK ?_);refine ek (fun h1=>?_) (fun h1=>?_)
   ·fail "w";fail "x";erw[List.length_map];refine ek (fun h2=>?_) (fun h2=>?_)
    ·fail "w";refine' bG ?_;refine⟨by fail "g",?_⟩;have e:cJ (.bl t k) i rs.length=[((i:Int)+1+t).toNat]:=by simp only[cJ];rewrite [if_pos ⟨h1,h2⟩];rfl
     have e2:(((((i:Int)+1+t).toNat:Nat)):Int)=(i:Int)+1+t:=Int.toNat_of_nonneg h1
     rw[e]at q;simp only[iA,List.map_cons,List.map_nil,e2]at q;exact q
    ·refine' aw ?_;refine' aw ?_;refine' bG ?_;refine⟨by decide,?_⟩;have e:cJ (.bl t k) i rs.length=[]:=by simp only[cJ];erw[if_neg (fun h=>h2 h.2)]
     rw[e]at q;exact q
   ·refine' aw ?_;refine' aw ?_;refine' bG ?_;refine⟨by decide,?_⟩;have e:cJ (.bl t k) i rs.length=[]:=by simp only[cJ];erw[if_neg (fun h=>h1 h.1)]
    rw[e]at q;exact q
  | _=>cases hb
 ·refine' aw ?_;refine' bG ?_;refine⟨by decide,?_⟩;have e:cJ r i rs.length=[]:=by cases r<;>first|rfl|cases hb
  rw[e]at q;exact q
end
inductive dp (rs:List aN) (ss:List Nat):Nat→Prop
 | start {i:Nat}:i∈ss→i<rs.length→dp rs ss i
 | succ {i j:Nat} {r:aN}:dp rs ss i→rs[i]?=some r→j∈fb r i rs.length→dp rs ss j
 | call {i j:Nat} {r:aN}:dp rs ss i→rs[i]?=some r→j∈cJ r i rs.length→dp rs ss j
set_option tactic.hygienic true in
theorem rH {r:aN} {i n j:Nat} (h:j∈fb r i n):j<n:=by
 delta r i n j h at ⊢;unfold fb at h;split at h
 ·rename_i q;simp at q h;omega
 ·cases h
set_option tactic.hygienic true in
theorem qh {r:aN} {i n j:Nat} (h:j∈cJ r i n):j<n:=by
 unfold cJ at h;split at h
 ·split at h
  ·rename_i q;simp at h;exact Ft q h
  ·cases h
 ·cases h
theorem vL (r:aN) (i n:Nat):(fb r i n).length≤1:=by unfold fb;split<;>simp
theorem u9 (r:aN) (i n:Nat):(cJ r i n).length≤1:=by
 delta r i n at ⊢;unfold cJ;split
 ·split<;>simp
 ·simp
structure RS (rs:List aN) (ss seen work:List Nat):Prop where
 nd:seen.Nodup
 lt:∀j∈seen,j<rs.length
 wlt:∀j∈work,j<rs.length
 ok:∀j∈seen,dp rs ss j
 wok:∀j∈work,dp rs ss j
 st:∀j∈ss,j<rs.length→j∈seen∨j∈work
 cl:∀i∈seen,∀r,rs[i]?=some r→∀j,j∈fb r i rs.length∨j∈cJ r i rs.length→j∈seen∨j∈work
theorem bk {n:Nat} {l:List Nat} (h:l.Nodup) (hl:∀j∈l,j<n):l.length≤n:=by
 induction n generalizing l with
 | zero=>cases l with|nil=>simp|cons a r=>exact absurd (hl a (.head _)) (by exact BB)
 | succ n ih=>
  by_cases hm:n∈l
  ·have h1:=List.length_erase_of_mem hm
   have h2:=ih (h.erase n) fun j hj=>by
    have hj':=(h.mem_erase_iff).mp hj
    have:=hl j hj'.2
    omega
   exact Fs h1 h2
  ·have:=ih h fun j hj=>by
    have:=hl j hj
    have:j≠n:=fun e=>hm (e▸hj)
    exact Fr (by assumption) this
   omega
theorem bH {α:Type} {l:List α} {a b:α}:a∈l++[b]↔a∈l∨a=b:=by simp
theorem RS.done {rs:List aN} {ss seen:List Nat} (h:RS rs ss seen []) (j:Nat):j∈seen↔dp rs ss j:=by
 constructor
 ·exact h.ok j
 ·intro hr;induction hr with
  | start h1 h2=>exact(h.st _ h1 h2).elim id (fun h=>by cases h)
  | succ _ h1 h2 ih=>exact(h.cl _ ih _ h1 _ (.inl h2)).elim id (fun h=>by cases h)
  | call _ h1 h2 ih=>exact(h.cl _ ih _ h1 _ (.inr h2)).elim id (fun h=>by cases h)
theorem RS.skip {rs:List aN} {ss seen work:List Nat} {i:Nat} (h:RS rs ss seen (work++[i])) (hi:i∈seen):RS rs ss seen work where
 nd:=h.nd
 lt:=h.lt
 wlt:=fun j hj=>h.wlt j (bH.mpr (.inl hj))
 ok:=h.ok
 wok:=fun j hj=>h.wok j (bH.mpr (.inl hj))
 st:=fun j hj hl=>(h.st j hj hl).elim .inl fun hw=>(bH.mp hw).elim .inr fun e=>.inl (e▸hi)
 cl:=fun k hk r hr j hj=>(h.cl k hk r hr j hj).elim .inl fun hw=>(bH.mp hw).elim .inr fun e=>.inl (e▸hi)
theorem RS.take {rs:List aN} {ss seen work:List Nat} {i:Nat} {r:aN} (h:RS rs ss seen (work++[i])) (hi:i∉seen) (hr:rs[i]?=some r):RS rs ss (seen++[i]) (work++fb r i rs.length++cJ r i rs.length):=by
 delta rs ss seen work i r h hi hr at ⊢;have hR:=h.wok i (bH.mpr (.inr rfl))
 refine⟨?_,fun j hj=>?_,fun j hj=>?_,fun j hj=>?_,fun j hj=>?_,fun j hj hl=>?_,fun k hk r' hr' j hj=>?_⟩
 ·erw[List.nodup_append];exact⟨h.nd,by simp,fun a ha b hb e=>by simp at hb;subst hb;subst e;exact hi ha⟩
 ·exact(bH.mp hj).elim (h.lt j) fun e=>e▸h.wlt i (bH.mpr (.inr rfl))
 ·rcases List.mem_append.mp hj with hj|hj
  ·rcases List.mem_append.mp hj with hj|hj
   ·exact h.wlt j (bH.mpr (.inl hj))
   ·exact rH hj
  ·exact qh hj
 ·exact(bH.mp hj).elim (h.ok j) fun e=>e▸hR
 ·rcases List.mem_append.mp hj with hj|hj
  ·rcases List.mem_append.mp hj with hj|hj
   ·exact h.wok j (bH.mpr (.inl hj))
   ·exact .succ hR hr hj
  ·exact .call hR hr hj
 ·rcases h.st j hj hl with hs|hw
  ·exact .inl (bH.mpr (.inl hs))
  ·rcases bH.mp hw with hw|e
   ·exact .inr (List.mem_append.mpr (.inl (List.mem_append.mpr (.inl hw))))
   ·exact .inl (bH.mpr (.inr e))
 ·rcases bH.mp hk with hk|e
  ·rcases h.cl k hk r' hr' j hj with hs|hw
   ·exact .inl (bH.mpr (.inl hs))
   ·rcases bH.mp hw with hw|e
    ·exact .inr (List.mem_append.mpr (.inl (List.mem_append.mpr (.inl hw))))
    ·exact .inl (bH.mpr (.inr e))
  ·subst e;rw[hr] at hr';cases hr';rcases hj with hj|hj
   ·exact .inr (List.mem_append.mpr (.inl (List.mem_append.mpr (.inr hj))))
   ·exact .inr (List.mem_append.mpr (.inr hj))
def d4 (l:List Nat):List (Int×V):=l.map fun j=>(((j:Nat):Int),V.bool true)
theorem fP (l:List Nat):(d4 l).map (fun U=>U.1)=l.map fun j=>((j:Nat):Int):=by unfold d4;erw[List.map_map];rfl
theorem jo {l:List Nat} {i:Nat}:((i:Nat):Int)∈(d4 l).map (fun U=>U.1)↔i∈l:=by
 erw[fP,List.mem_map];exact⟨fun⟨a,ha,e⟩=>by erw[←Int.ofNat.inj e];exact ha,fun h=>⟨i,h,rfl⟩⟩
section
variable (C:kq) {n:Nat} {σ:aj} {Q:V→aj→Prop}
include C
theorem zR {rs:List aN} {ss:List Nat} (hz:rs.length≤1000) (hs:ss.length≤2000) (q:∀l:List Nat,l.Nodup→(∀j,j∈l↔dp rs ss j)→Q (iA l) σ):TF (n+8) 134 [eC rs,iA ss] σ Q:=by
 delta C n σ Q rs ss hz hs q at ⊢;have hK:=C.hK
 refine aW (by erw[hK];rfl) rfl rfl (by erw[hK];nofun) (by nofun) (by nofun) (pn fun U U=>rfl) ?_;delta c;fail "j";fail "w";refine f9 ?_;delta sa;fail "w";refine cR (ηk:=[(".0",.un),("start",.un),("len",.glb),("rows",.cel c)]) (by fail "n") (by fail "s") (cB.pure ss (fun j=>V.int (j:Nat)) (fun j=>V.int (j:Nat)) (fun j=>decide (j<rs.length)) ?iter (by omega) ?turn ?fin)
 case iter=>
  fail "w";exact⟨trivial,.lst,rfl⟩
 case turn=>
  delta i u hu;fail "w";refine⟨by fail "d",?_⟩;show TB _ _ _ _ _
  fail "w";refine ek (?_) (fun h=>absurd (by exact Fq h) h);intro _;fail "w";fail "x";erw[List.length_map];refine ek (fun h=>?_) (fun h=>?_)
  ·refine eh ⟨by simp;exact xp h,?_⟩;fail "w";exact⟨rfl,rfl⟩
  ·refine⟨by simp;exact Fp h,rfl⟩
 case fin=>
  delta wa;refine' ⟨_,by fail "m",?_⟩
  refine iF (fun k η' σ'=>∃seen work:List Nat,RS rs ss seen work∧k=3*(rs.length-seen.length)+work.length∧work.length≤10000∧work.length+2*(rs.length-seen.length)≤5000∧
   η'=([("rows",.cel c),("starts",.val (iA ss)),("seen",.val (.loc sa)),("work",.val (.loc wa)),("index",.un),("len",.glb),("successors",.glb),("called_rows",.glb),("sorted",.glb)]:aI)∧
   σ'=(wa,.lst (work.map fun j=>V.int (j:Nat)))::(sa,.dI (d4 seen))::(c,.cell (eC rs))::σ)
   (3*rs.length+(ss.filter fun j=>decide (j<rs.length)).length) ⟨[],ss.filter fun j=>decide (j<rs.length),?_,rfl,?_,?_,rfl,rfl⟩ ?_
  ·refine⟨.nil,fun j h=>(by cases h),fun j h=>?_,fun j h=>(by cases h),fun j h=>?_,fun j h h2=>.inr ?_,fun j h=>(by cases h)⟩
   ·simpa using(List.mem_filter.mp h).2
   ·have:=List.mem_filter.mp h;exact .start this.1 (by simpa using this.2)
   ·exact List.mem_filter.mpr ⟨h,by simpa using h2⟩
  ·have:=List.length_filter_le (fun j=>decide (j<rs.length)) ss;omega
  ·have:=List.length_filter_le (fun j=>decide (j<rs.length)) ss;simp;exact Fo this hz hs
  delta k η' σ';intro z317;injection z317 with seen work R hk hw1 hw2 rfl rfl;fail "w";fail "x";erw[List.length_map];refine ek (fun hlen=>?_) (fun hlen=>?_)
  ·obtain⟨work,i,rfl⟩:∃w i,work=w++[i]:=by
    rcases List.eq_nil_or_concat work with e|⟨w,i,e⟩
    ·subst e;simp at hlen
    ·exact⟨w,i,by simpa using e⟩
   simp only[List.length_append,List.length_singleton] at hk hw1 hw2;have hi:i<rs.length:=R.wlt i (by simp)
   have hr:rs[i]?=some rs[i]:=by simp[hi]
   fail "w";refine' ap ?_;refine mH F.slot_list_pop (by rfl) rfl (by fail "c") ?_;refine tr (vs:=(work++[i]).map fun j=>V.int (j:Nat)) (v:=V.int (i:Nat)) (by simp) (by fail "b") (by simp;exact Fn hw2) ?_;erw[List.map_append,List.map_singleton,List.dropLast_concat];fail "w";refine' uy (by fail "c") ?_;erw[m0];by_cases hin:i∈seen
   ·erw[decide_eq_true (jo.mpr hin)];fail "w";refine aw ?_;refine bN (η':=([("rows",.cel c),("starts",.val (iA ss)),("seen",.val (.loc sa)),("work",.val (.loc wa)),("index",.un),("len",.glb),("successors",.glb),("called_rows",.glb),("sorted",.glb)]:aI)) (aC.weak (by fail "d")) ?_;exact⟨_,by exact Fm hk,seen,work,R.skip hin,rfl,by exact Fk hw2,by exact Fj hw2,rfl,rfl⟩
   ·erw[decide_eq_false (fun h=>hin (jo.mp h))];fail "w";refine' aU ?_;refine dy (by fail "b") ?_ (by erw[d4,List.length_map];have:=bk R.nd R.lt;omega);erw[ch (fun h=>hin (jo.mp h))];have es:d4 seen++[(((i:Nat):Int),V.bool true)]=d4 (seen++[i]):=by unfold d4;simp
    erw[es];fail "w";have z1:=vL rs[i] i rs.length
    have z2:=u9 rs[i] i rs.length
    have z3:(seen++[i]).length≤rs.length:=bk (R.take hin hr).nd (R.take hin hr).lt
    rw[List.length_append,List.length_singleton] at z3;refine' ap ?_;refine' aH F.slot_list_extend (by rfl) rfl (by fail "c") ?_;refine' aa (by fail "a") C.g_successors ?_;refine' aJ (TF.up (m:=n+5) (r6 C hr hz ?_) (by exact As));refine' ll (by fail "b") .lst (by simp;exact Fi hw2 z1 hi) ?_;refine' ap ?_;refine' aH F.slot_list_extend (by rfl) rfl (by fail "c") ?_;refine' aa (by fail "a") C.g_called_rows ?_;refine' aJ (TF.up (m:=n+5) (yi C hr hz ?_) (by exact As));refine' ll (by fail "b") .lst (by simp;exact Fh hw2 z1 z2 hi) ?_;refine aw ?_;refine bN (η':=([("rows",.cel c),("starts",.val (iA ss)),("seen",.val (.loc sa)),("work",.val (.loc wa)),("index",.un),("len",.glb),("successors",.glb),("called_rows",.glb),("sorted",.glb)]:aI)) (aC.weak (by fail "d")) ?_;refine⟨_,?_,seen++[i],work++fb rs[i] i rs.length++cJ rs[i] i rs.length,R.take hin hr,rfl,?_,?_,rfl,?_⟩
    ·simp only[List.length_append,List.length_singleton];exact Fg z3 z1 z2 hk hi
    ·simp only[List.length_append,List.length_singleton];exact Ff hw2 hw1 z1 z2 hi
    ·simp only[List.length_append,List.length_singleton];exact Fe hw2 z1 z2 z3 hi
    ·simp only[List.map_append]
  ·have:work=[]:=by cases work with|nil=>rfl|cons _ _=>exact absurd (by simp) hlen
   subst this;fail "w";refine' bA (aa (by fail "a") C.g_sorted ?_);refine dH (us:=(d4 seen).map (fun U=>U.1)) (l0 (by fail "c") (by erw[d4,List.length_map];have:=bk R.nd R.lt;omega)) (by erw[fP,List.length_map];have:=bk R.nd R.lt;omega) ?_;delta us' a' hp;intro _;refine⟨_,_,(ay.lst (by fail "l")).trans (.drop (σ':=σ) (by fail "r")),?_⟩;rw[fP] at hp
   have e:us'.map V.int=(us'.map Int.toNat).map fun j=>V.int (j:Nat):=by
    erw[List.map_map];refine List.map_congr_left fun x hx=>?_
    obtain⟨j,_,rfl⟩:=List.mem_map.mp (hp.mem_iff.mp hx);simp
   have hp2:(us'.map Int.toNat).Perm seen:=by
    have:=hp.map Int.toNat
    rw[List.map_map] at this;have e0:(Int.toNat∘fun j:Nat=>(j:Int))=id:=by funext x;simp
    rwa[e0,List.map_id] at this
   erw[e];exact q _ (hp2.nodup_iff.mpr R.nd) fun j=>hp2.mem_iff.trans (R.done j)
end
structure aT where
 ins:aN
 fx:Option Bool
 mp:List Int
 deriving Nonempty
def b7:List aT→Nat→List (Nat×Bool)
 | [],_=>[]
 | a::r,i=>(match a.fx with|some b=>[(i,b)]|none=>[])++b7 r (i+1)
theorem gS {i:Nat}:b7 [] i=[]:=rfl
theorem bU {a:aT} {r:List aT} {i:Nat}:b7 (a::r) i=(match a.fx with|some b=>[(i,b)]|none=>[])++b7 r (i+1):=rfl
def bi:List aT→Nat→List (Nat×List Int)
 | [],_=>[]
 | a::r,i=>(if a.ins.isBL then[(i+1,a.mp)]else[])++bi r (i+1)
theorem j0 {i:Nat}:bi [] i=[]:=rfl
theorem bC {a:aT} {r:List aT} {i:Nat}:bi (a::r) i=(if a.ins.isBL then[(i+1,a.mp)]else[])++bi r (i+1):=rfl
structure JO where
 name:Str
 key:Int
 size:Int
 words:List (Int×Int)
 ar:List aT
 cmds:List (Str×Nat)
 body:Nat
 deriving Nonempty
def gR (p:Nat×Bool):V:=.tup [.int (p.1:Nat),.str (if p.2 then "addr" else "data"),.int 0,.int 0]
def co (p:Nat×List Int):Int×V:=((p.1:Nat),.lst (p.2.map V.int))
def cC (p:Str×Nat):Str×V:=(p.1,.int (p.2:Nat))
def f7 (p:Int×Int):V:=.tup [.int p.1,.int p.2]
def JO.rows (J:JO):List aN:=J.ar.map aT.ins
theorem cE {α:Type} {J:JO} {f:aN→α}:(J.rows.map f).length=J.ar.length:=(List.length_map ..).trans (List.length_map ..)
theorem jq {J:JO}:J.rows.length=J.ar.length:=List.length_map ..
def JO.kvs (J:JO):List (Str×V):=[("name",.str J.name),("key",.int J.key),("imports",.lst []),("rows",eC J.rows),("data_size",.int J.size),("words",.lst (J.words.map f7)),("data_fixups",.lst []),
 ("fixups",.lst ((b7 J.ar 0).map gR)),("entries",.lst []),("pointers",.lst []),("maps",.dI ((bi J.ar 0).map co)),("commands",.dS (J.cmds.map cC)),("body",.int (J.body:Nat))]
def JO.v (J:JO):V:=.obj 83 J.kvs
theorem JO.g_name (J:JO):aB J.kvs "name" = some (.str J.name):=by kernel_rfl
theorem JO.g_key (J:JO):aB J.kvs "key" = some (.int J.key):=by kernel_rfl
theorem JO.g_imports (J:JO):aB J.kvs "imports" = some (.lst []):=by kernel_rfl
theorem JO.g_rows (J:JO):aB J.kvs "rows" = some (eC J.rows):=by kernel_rfl
theorem JO.g_data_size (J:JO):aB J.kvs "data_size" = some (.int J.size):=by kernel_rfl
theorem JO.g_words (J:JO):aB J.kvs "words" = some (.lst (J.words.map f7)):=by kernel_rfl
theorem JO.g_data_fixups (J:JO):aB J.kvs "data_fixups" = some (.lst []):=by kernel_rfl
theorem JO.g_fixups (J:JO):aB J.kvs "fixups" = some (.lst ((b7 J.ar 0).map gR)):=by kernel_rfl
theorem JO.g_entries (J:JO):aB J.kvs "entries" = some (.lst []):=by kernel_rfl
theorem JO.g_pointers (J:JO):aB J.kvs "pointers" = some (.lst []):=by kernel_rfl
theorem JO.g_maps (J:JO):aB J.kvs "maps" = some (.dI ((bi J.ar 0).map co)):=by kernel_rfl
theorem JO.g_commands (J:JO):aB J.kvs "commands" = some (.dS (J.cmds.map cC)):=by kernel_rfl
theorem JO.g_body (J:JO):aB J.kvs "body" = some (.int (J.body:Nat)):=by kernel_rfl
section
variable (C:kq)
include C
theorem qF:cq S.K 83 "name":=by erw[C.hK];exact⟨by nofun,by nofun,by nofun⟩
theorem tD:cq S.K 83 "key":=by erw[C.hK];exact⟨by nofun,by nofun,by nofun⟩
theorem i8:cq S.K 83 "imports":=by erw[C.hK];exact⟨by nofun,by nofun,by nofun⟩
theorem gi:cq S.K 83 "rows":=by erw[C.hK];exact⟨by nofun,by nofun,by nofun⟩
theorem eF:cq S.K 83 "data_size":=by erw[C.hK];exact⟨by nofun,by nofun,by nofun⟩
theorem iP:cq S.K 83 "words":=by erw[C.hK];exact⟨by nofun,by nofun,by nofun⟩
theorem eG:cq S.K 83 "data_fixups":=by erw[C.hK];exact⟨by nofun,by nofun,by nofun⟩
theorem ju:cq S.K 83 "fixups":=by erw[C.hK];exact⟨by nofun,by nofun,by nofun⟩
theorem fT:cq S.K 83 "entries":=by erw[C.hK];exact⟨by nofun,by nofun,by nofun⟩
theorem gj:cq S.K 83 "pointers":=by erw[C.hK];exact⟨by nofun,by nofun,by nofun⟩
theorem kE:cq S.K 83 "maps":=by erw[C.hK];exact⟨by nofun,by nofun,by nofun⟩
theorem gk:cq S.K 83 "commands":=by erw[C.hK];exact⟨by nofun,by nofun,by nofun⟩
theorem kF:cq S.K 83 "body":=by erw[C.hK];exact⟨by nofun,by nofun,by nofun⟩
end
theorem gq:∀{rs:List aT} {i:Nat} {p:Nat×Bool},p∈b7 rs i→i≤p.1∧p.1<i+rs.length
 | [],_,_,h=>by cases h
 | a::r,i,p,h=>by
  rw[bU,List.mem_append]at h;rcases h with h|h
  ·split at h
   ·simp at h;subst h;simp
   ·cases h
  ·have:=gq h;simp only[List.length_cons];exact Er this
theorem dg:∀(rs:List aT) (i:Nat),((b7 rs i).map (fun U=>U.1)).Nodup
 | [],_=>.nil
 | a::r,i=>by
  erw[bU,List.map_append,List.nodup_append];refine⟨by split<;>simp,dg r (i+1),fun x hx y hy e=>?_⟩;obtain⟨p,hp,rfl⟩:=List.mem_map.mp hy;have:=(gq hp).1
  split at hx
  ·simp at hx;exact Ak this hx e
  ·cases hx
theorem gp:∀{rs:List aT} {i:Nat} {p:Nat×List Int},p∈bi rs i→i+1≤p.1∧p.1≤i+rs.length
 | [],_,_,h=>by cases h
 | a::r,i,p,h=>by
  rw[bC,List.mem_append]at h;rcases h with h|h
  ·split at h
   ·simp at h;subst h;simp
   ·cases h
  ·have:=gp h;simp only[List.length_cons];exact Bu this
theorem db:∀(rs:List aT) (i:Nat),((bi rs i).map (fun U=>U.1)).Pairwise (·<·)
 | [],_=>.nil
 | a::r,i=>by
  erw[bC,List.map_append,List.pairwise_append];refine⟨by split<;>simp,db r (i+1),fun x hx y hy=>?_⟩;obtain⟨p,hp,rfl⟩:=List.mem_map.mp hy;have:=(gp hp).1
  split at hx
  ·simp at hx;exact Br hx this
  ·cases hx
def cW (rs:List aT) (fx:List (Nat×Bool)):List (Nat×Int):=fx.filterMap fun p=>if p.2 then(rs[p.1]?).map fun a=>(p.1,a.ins.three)else none
def kS (p:Nat×Int):Int×V:=((p.1:Nat),.int p.2)
theorem tP (rs:List aT) (fx:List (Nat×Bool)):∀j,j∈(cW rs fx).map (fun U=>U.1)→j∈fx.map (fun U=>U.1):=by
 delta rs fx at ⊢;delta j hj;injection (List.mem_map.mp hj)with p hp rfl;injection (List.mem_filterMap.mp hp)with q hq e;split at e
 ·rw[Option.map_eq_some_iff]at e;injection e with a _ rfl;exact List.mem_map.mpr ⟨q,hq,rfl⟩
 ·cases e
theorem ii (l:List (Nat×Int)):(l.map kS).map (fun U=>U.1)=(l.map (fun U=>U.1)).map fun j=>((j:Nat):Int):=by erw[List.map_map,List.map_map];rfl
theorem sM {l:List Nat} {i:Nat}:((i:Nat):Int)∈(l.map fun j=>((j:Nat):Int))↔i∈l:=by
 erw[List.mem_map];exact⟨fun⟨a,ha,e⟩=>by erw[←Int.ofNat.inj e];exact ha,fun h=>⟨i,h,rfl⟩⟩
def place (ks:List Bool) (i:Nat):Nat:=(ks.take i).count true
theorem cG {ks:List Bool} {i:Nat} {k:Bool} (h:ks[i]?=some k):place ks (i+1)=place ks i+if k then 1 else 0:=by
 unfold place;erw[List.take_add_one,h,List.count_append];cases k<;>simp
section
variable (C:kq) {n:Nat} {σ:aj} {Q:V→aj→Prop}
include C
theorem lK {J:JO} (q:Q (.dI []) σ):TF (n+1) 141 [J.v] σ Q:=by
 delta C n σ Q J q at ⊢;have hK:=C.hK
 refine cU (aW (by erw[hK];rfl) rfl rfl (by erw[hK];nofun) (by nofun) (by nofun) (kO fun U=>rfl) ?_);delta c;fail "j";fail "w";refine f9 ?_;delta a;fail "w";refine aO (fun U σ'=>σ'=(a,.dI [])::σ) ?_;fail "i";refine⟨trivial,_,.lst,rfl,?_,?_⟩
 ·delta i v σ' hv;intro z332;first|subst z332|cases z332
  rw[List.getElem?_map,Option.map_eq_some_iff]at hv;first|((first|(injection (tU hv)with j z333;injection z333 with k z334)|(injection hv with z333 z334;injection z333 with j k));injection z334 with z335 z336;(first|subst z336|cases z336))|(obtain⟨⟨j,k⟩,_,rfl⟩:=hv)
  unfold gR;cases k
  all_goals
   fail "w";refine' ak (by nofun) ?_;refine' aw ?_;exact aw ⟨by fail "d",rfl⟩
 ·delta σ';intro z337;first|subst z337|cases z337
  fail "w";exact⟨_,_,ay.dI (by fail "l"),q⟩
theorem fw {J:JO} (hz:J.ar.length≤1000) (q:Q (.dI ((cW J.ar (b7 J.ar 0)).map kS)) σ):TF (n+1) 148 [J.v] σ Q:=by
 delta C n σ Q J hz q at ⊢;have hK:=C.hK
 have hF:(b7 J.ar 0).length≤1000:=by
  have:=bk (n:=J.ar.length) (dg J.ar 0) (fun j hj=>by obtain⟨p,hp,rfl⟩:=List.mem_map.mp hj;have:=(gq hp).2;exact vU this)
  rw[List.length_map]at this;omega
 refine cU (aW (by erw[hK];rfl) rfl rfl (by erw[hK];nofun) (by nofun) (by nofun) (kO fun U=>rfl) ?_);delta c;fail "j";fail "w";refine f9 ?_;delta a;fail "w";refine aO (fun i σ'=>σ'=(a,.dI ((cW J.ar ((b7 J.ar 0).take i)).map kS))::σ) ?_;fail "i";refine⟨trivial,_,.lst,rfl,?_,?_⟩
 ·delta i v σ' hv;intro z338;first|subst z338|cases z338
  rw[List.getElem?_map,Option.map_eq_some_iff]at hv;first|((first|(injection (tU hv)with j z339;injection z339 with k z340)|(injection hv with z339 z340;injection z339 with j k));injection z340 with hj z341;(first|subst z341|cases z341))|(obtain⟨⟨j,k⟩,hj,rfl⟩:=hv)
  have hjm:=List.mem_of_getElem? hj
  have hjl:=(gq hjm).2
  have hilt:i<(b7 J.ar 0).length:=by rw[List.getElem?_eq_some_iff]at hj;exact hj.1
  have ht:(b7 J.ar 0).take (i+1)=(b7 J.ar 0).take i++[(j,k)]:=by erw[List.take_add_one,hj];rfl
  unfold gR;cases k with
  | false=>
   fail "w";refine' ak (by nofun) ?_;refine' aw ?_;refine aw ⟨by fail "d",?_⟩;erw[ht];simp[cW]
  | true=>
   fail "w";refine' aG (by nofun) ?_;refine' aG (by nofun) ?_;fail "i";fail "w";have hr:J.ar[j]?=some (J.ar[j]'(by exact vU hjl)):=by simp
   refine' al (v:=(J.ar[j]'(by exact vU hjl)).ins.v) .lst (by erw[JO.rows,List.map_map,List.getElem?_map];simp[hr]) (by exact hU) (by exact C9 hjl hz) ?_;refine' aU ?_
   have hnew:((j:Nat):Int)∉((cW J.ar ((b7 J.ar 0).take i)).map kS).map (fun U=>U.1):=by
    erw[ii,sM];intro h;have h2:=tP _ _ _ h
    have h3:=dg J.ar 0
    have h4:(b7 J.ar 0).map (fun U=>U.1)=((b7 J.ar 0).take i).map (fun U=>U.1)++((b7 J.ar 0).drop i).map (fun U=>U.1):=by erw[←List.map_append,List.take_append_drop]
    rw[h4,List.nodup_append]at h3;refine h3.2.2 j h2 j ?_ rfl;erw[List.drop_eq_getElem_cons hilt];rw[List.getElem?_eq_some_iff]at hj;simp[hj.2]
   refine dy (by fail "b") ?_ ?_
   ·erw[ch hnew];refine' aw ?_;refine aw ⟨by fail "d",?_⟩;erw[ht];simp[cW,hr,kS]
   ·erw[List.length_map];have:=List.length_filterMap_le (fun p:Nat×Bool=>if p.2 then(J.ar[p.1]?).map fun a=>(p.1,a.ins.three)else none) ((b7 J.ar 0).take i)
    have h2:=List.length_take_le i (b7 J.ar 0)
    show(cW _ _).length≤_
    unfold cW;exact DJ this h2 hilt hF
 ·delta σ';intro z342;first|subst z342|cases z342
  erw[List.length_map,List.take_length];fail "w";exact⟨_,_,ay.dI (by fail "l"),q⟩
theorem r8 {ks:List Bool} (hz:ks.length≤1000) (q:Q (iA ((List.range (ks.length+1)).map (place ks))) σ):TF (n+1) 155 [.lst (ks.map V.bool)] σ Q:=by
 delta C n σ Q ks hz q at ⊢;have hK:=C.hK
 refine cU (aW (by erw[hK];rfl) rfl rfl (by erw[hK];nofun) (by nofun) (by nofun) (kO fun U=>rfl) ?_);delta c;fail "j";fail "w";refine' b8 ?_;refine⟨by decide,?_⟩;delta a;fail "w";refine' qo (fun i η' σ'=>η'=([("kept",.val (.lst (ks.map V.bool))),("places",.val (.loc a)),("count",.val (.int (place ks i:Nat))),("one",.un)]:aI)∧σ'=(a,.lst (((List.range i).map (place ks)).map fun j=>V.int (j:Nat)))::σ) ?_;refine⟨trivial,_,.lst,⟨rfl,rfl⟩,?_,?_⟩
 ·delta i v η' σ' hv;intro z343;injection z343 with rfl rfl;rw[List.getElem?_map,Option.map_eq_some_iff]at hv;injection hv with k hk rfl;have hlt:i<ks.length:=by rw[List.getElem?_eq_some_iff]at hk;exact hk.1
  have hp:=cG hk
  have e:(((List.range i).map (place ks)).map fun j=>V.int (j:Nat))++[V.int (place ks i:Nat)]=((List.range (i+1)).map (place ks)).map fun j=>V.int (j:Nat):=by
   erw[List.range_succ,List.map_append,List.map_append];rfl
  fail "w";fail "t";refine am (by fail "b") (by simp;exact Ep hlt hz) ?_;erw[e];fail "w";refine' iH ?_;cases k with
  | true=>
   fail "w";refine' lk (by fail "a") ?_;refine jk ⟨_,by fail "m",?_⟩;refine aw ?_;refine bN (η':=([("kept",.val (.lst (ks.map V.bool))),("places",.val (.loc a)),("count",.val (.int (place ks i+1))),("one",.un)]:aI)) (aC.weak (by fail "d")) ⟨?_,rfl⟩;erw[hp];rfl
  | false=>
   fail "w";refine aw ?_;refine bN (η':=([("kept",.val (.lst (ks.map V.bool))),("places",.val (.loc a)),("count",.val (.int (place ks i:Nat))),("one",.un)]:aI)) (aC.weak (by fail "d")) ⟨?_,rfl⟩;erw[hp];rfl
 ·delta η' σ';intro z348;injection z348 with rfl rfl;erw[List.length_map]
  have e:(((List.range ks.length).map (place ks)).map fun j=>V.int (j:Nat))++[V.int (place ks ks.length:Nat)]=((List.range (ks.length+1)).map (place ks)).map fun j=>V.int (j:Nat):=by
   erw[List.range_succ,List.map_append,List.map_append];rfl
  fail "w";fail "t";refine am (by fail "b") (by simp;omega) ?_;erw[e];fail "w";exact⟨_,_,ay.lst (by fail "l"),q⟩
end
set_option tactic.hygienic true in
theorem j9:∀{rs:List aT} {i j:Nat} {b:Bool},(j,b)∈b7 rs i↔∃a,i≤j∧rs[j-i]?=some a∧a.fx=some b
 | [],i,j,b=>by simp[gS,bU]
 | x::r,i,j,b=>by
  erw[bU,List.mem_append,j9];constructor
  ·rintro(h|⟨a,h1,h2,h3⟩)
   ·split at h
    ·rename_i b' hb;simp at h;obtain⟨rfl,rfl⟩:=h;exact⟨x,Nat.le_refl _,by simp,hb⟩
    ·cases h
   ·refine⟨a,by exact z8 h1,?_,h3⟩;erw[show j-i=(j-(i+1))+1 by exact Bw h1];exact h2
  ·rintro⟨a,h1,h2,h3⟩;rcases Nat.eq_or_lt_of_le h1 with e|h1
   ·subst e;simp at h2;subst h2;erw[h3];simp
   ·refine .inr ⟨a,h1,?_,h3⟩;rw[show j-i=(j-(i+1))+1 by exact Bv h1 (by assumption)]at h2;exact h2
set_option tactic.hygienic true in
theorem wy (rs:List aT) (fx:List (Nat×Bool)):List.Sublist ((cW rs fx).map (fun U=>U.1)) (fx.map (fun U=>U.1)):=by
 delta rs fx at ⊢;induction fx with
 | nil=>exact .slnil
 | cons p r ih=>
  delta p r ih at *;unfold cW at ih ⊢;erw[List.filterMap_cons];split
  ·exact ih.cons _
  ·rename_i q hq;split at hq
   ·rw[Option.map_eq_some_iff]at hq;injection hq with a _ rfl;exact ih.cons₂ _
   ·cases hq
theorem j5 (rs:List aT):((cW rs (b7 rs 0)).map (fun U=>U.1)).Nodup:=(dg rs 0).sublist (wy _ _)
theorem em {rs:List aT} {i:Nat} {k:Int}:(i,k)∈cW rs (b7 rs 0)↔∃a,rs[i]?=some a∧a.fx=some true∧a.ins.three=k:=by
 delta rs i k at ⊢;unfold cW;erw[List.mem_filterMap];constructor
 ·intro z354;first|((first|(injection (tU z354)with j z355;injection z355 with b z356)|(injection z354 with z355 z356;injection z355 with j b));injection z356 with hj e)|(obtain⟨⟨j,b⟩,hj,e⟩:=z354;delta hj e j b at *)
  injection (j9.mp hj)with a _ h2 h3;cases b with
  | false=>simp at e
  | true=>
   simp at e h2;injection e with a' ha rfl rfl;exact⟨a',ha,by rw[ha]at h2;cases h2;exact h3,rfl⟩
 ·intro z364;injection z364 with a h1 h2 rfl;exact⟨(i,true),j9.mpr ⟨a,Nat.zero_le _,h1,h2⟩,by simp[h1]⟩
set_option tactic.hygienic true in
theorem jz {rs:List aT} {i:Nat} {a:aT} (h:rs[i]?=some a):aB ((cW rs (b7 rs 0)).map kS) ((i:Nat):Int)=if a.fx=some true then some (.int a.ins.three)else none:=by
 delta rs i a h at ⊢
 have hn:(((cW rs (b7 rs 0)).map kS).map (fun U=>U.1)).Nodup:=by
  erw[ii];exact(j5 rs).map (fun j=>((j:Nat):Int)) (fun a b h e=>h (Int.ofNat.inj e))
 split
 ·rename_i hf;exact cS hn (List.mem_map.mpr ⟨(i,a.ins.three),em.mpr ⟨a,h,hf,rfl⟩,rfl⟩)
 ·rename_i hf;refine wz ?_;erw[ii,sM];delta hm;first|((first|(injection (tU (List.mem_map.mp hm))with j z368;injection z368 with k z369)|(injection (List.mem_map.mp hm)with z368 z369;injection z368 with j k));injection z369 with hp z370;(first|subst z370|cases z370))|(obtain⟨⟨j,k⟩,hp,rfl⟩:=List.mem_map.mp hm)
  injection (em.mp hp)with a' h1 h2 _;dsimp only at h h1;rw[h]at h1;cases h1;exact hf h2
def aN.setThree:aN→Int→aN
 | .reg op a b _,k=>.reg op a b k
 | .bl t _,k=>.bl t k
 | .br r _,k=>.br r k
def gm (ks:List Bool) (i:Nat) (a:aT):aN:=match a.ins with
 | .bl t k=>.bl ((place ks ((i:Int)+1+t).toNat:Nat)-(place ks i:Nat)-1) k
 | x=>if a.fx=some true then x.setThree (place ks x.three.toNat:Nat)else x
def uL (ks:List Bool) (i:Nat) (a:aT):aT:={ a with ins:=gm ks i a }
def bT (ks:List Bool):List aT→Nat→List aT
 | [],_=>[]
 | a::r,i=>(if ks[i]?.getD false then[uL ks i a]else[])++bT ks r (i+1)
theorem lv {ks:List Bool} {i:Nat}:bT ks [] i=[]:=rfl
theorem bO {ks:List Bool} {a:aT} {r:List aT} {i:Nat}:bT ks (a::r) i=(if ks[i]?.getD false then[uL ks i a]else[])++bT ks r (i+1):=rfl
theorem ic (ks:List Bool):∀(xs ys:List aT) (i:Nat),bT ks (xs++ys) i=bT ks xs i++bT ks ys (i+xs.length)
 | [],ys,i=>rfl
 | a::r,ys,i=>by
  erw[List.cons_append,bO,bO,ic ks r ys,List.append_assoc,List.length_cons,show i+1+r.length=i+(r.length+1)by exact vV]
theorem pT (ks:List Bool):∀(xs:List aT) (i:Nat),(bT ks xs i).length≤xs.length
 | [],i=>Nat.le_refl _
 | a::r,i=>by
  have:=pT ks r (i+1)
  erw[bO,List.length_append,List.length_cons];split
  ·simp;exact Eo this
  ·simp;omega
structure WF (J:JO):Prop where
 bl:∀(i:Nat) a t k,J.ar[i]?=some a→a.ins=.bl t k→0≤(i:Int)+1+t∧(i:Int)+1+t≤J.ar.length
 fx:∀(i:Nat) a,J.ar[i]?=some a→a.fx=some true→a.ins.isBL=false∧0≤a.ins.three∧a.ins.three≤J.ar.length
 body:J.body≤J.ar.length
 cmds:∀p∈J.cmds,p.2≤J.ar.length
 cnd:(J.cmds.map (fun U=>U.1)).Nodup
 cln:J.cmds.length≤60
 small:J.ar.length≤1000
 maps:(bi J.ar 0).length<64
abbrev qE (ks:List Bool):V:=iA ((List.range (ks.length+1)).map (place ks))
theorem eR {ks:List Bool} {i:Nat} (h:i≤ks.length):(((List.range (ks.length+1)).map (place ks)).map fun j=>V.int (j:Nat))[i]?=some (.int (place ks i:Nat)):=by
 erw[List.getElem?_map,List.getElem?_map,List.getElem?_range (by exact En h)];rfl
section
variable (C:kq) {n:Nat} {σ:aj} {Q:V→aj→Prop}
include C
theorem sO {ks:List Bool} {t k:Int} {i:Nat} (hz:ks.length≤1000) (h1:0≤(i:Int)+1+t) (h2:(i:Int)+1+t≤ks.length) (hi:i≤ks.length)
 (q:Q (aN.bl ((place ks ((i:Int)+1+t).toNat:Nat)-(place ks i:Nat)-1) k).v σ):TF (n+3) 162 [(aN.bl t k).v,.int (i:Nat),qE ks] σ Q:=by
 delta C n σ Q ks t k i hz h1 h2 hi q at ⊢;have hK:=C.hK
 refine aW (by erw[hK];rfl) rfl rfl (by erw[hK];nofun) (by nofun) (by nofun) (md fun U U U=>rfl) fun c=>?_
 fail "j";fail "w";refine' aa (by fail "a") C.g_target_of ?_;refine' aJ (jc hK ?_);refine' al (v:=.int (place ks ((i:Int)+1+t).toNat:Nat)) (by fail "c") (by show _[((i:Int)+1+t).toNat]?=_;exact eR (by exact BA h2)) h1 (by show(i:Int)+1+t<_;exact El h2 hz) ?_;refine' al (v:=.int (place ks i:Nat)) (by fail "c") (by simpa using eR hi) (by exact hU) (by exact xw hi hz) ?_;refine⟨by fail "g",q⟩
set_option tactic.hygienic true in
theorem rc {J:JO} {ks:List Bool} (W:WF J) (hks:ks.length=J.ar.length) (q:Q (eC ((bT ks J.ar 0).map aT.ins)) σ):TF (n + 5) 169 [J.v,eC J.rows,.lst (ks.map V.bool),qE ks] σ Q:=by
 delta C n σ Q J ks W hks q at ⊢;have hK:=C.hK
 have hz:=W.small
 refine cU (aW (by erw [hK];rfl) rfl rfl (by erw [hK];nofun) (by nofun) (by nofun) (xJ fun U U U U=>rfl) fun c=>?_);fail "j";fail "w";refine' aa (by fail "a") C.g_imported_calls ?_;refine' aJ (TF.up (m:=n + 1) (lK C ?_) (by exact C8));refine' aa (by fail "a") C.g_own_addresses ?_;refine' aJ (TF.up (m:=n + 1) (fw C hz ?_) (by exact C8));refine' b8 ?_;refine' ⟨by decide,fun a=>?_⟩;refine aO (fun i σ'=>σ'=(a,.lst (((bT ks (J.ar.take i) 0).map aT.ins).map aN.v))::σ) ?_;refine' aa (by fail "a") C.g_range ?_;refine' aa (by fail "a") C.g_len ?_;refine' bt (by fail "c") (by erw [cE];omega) ?_;refine ez ?_;erw [cE];refine ⟨⟨by exact Ek hz,by exact z0⟩,_,.rng,rfl,?_,?_⟩
 ·rintro i v σ' hv rfl;rw [List.getElem?_map,Option.map_eq_some_iff] at hv;obtain ⟨i',hi',rfl⟩:=hv;have hlt:i < J.ar.length:=by rw [List.getElem?_eq_some_iff] at hi';simpa using hi'.1
  rw [List.getElem?_range (by simpa using hlt)] at hi';cases hi';have ha:J.ar[i]? = some (J.ar[i]):=by simp
  have hkk:ks[i]? = some (ks[i]'(by exact uI hlt hks)):=by simp
  obtain ⟨ai,ha⟩:=tT ha;obtain ⟨ki,hkk⟩:=tT hkk;have hml:=pT ks (J.ar.take i) 0
  have htl:=List.length_take_le i J.ar
  have hstep:bT ks (J.ar.take (i + 1)) 0=bT ks (J.ar.take i) 0++if ki then [uL ks i ai] else []:=by
   erw [List.take_add_one,ha,ic];congr 1;show bT ks [ai] _ = _
   erw [bO,lv,List.length_take,Nat.min_eq_left (Nat.le_of_lt hlt),Nat.zero_add,hkk,List.append_nil];rfl
  fail "w";refine' al (v:=ai.ins.v) (by fail "c") (by simp [JO.rows,List.getElem?_map,ha]) (by exact hU) (by exact rt hlt hz) ?_;refine' iH ?_;refine' al (v:=.bool ki) (by fail "c") (by erw [List.getElem?_map];simp [hkk]) (by exact hU) (by exact rt hlt hz) ?_;cases ki with
  | false=>
   fail "w";refine' aw ?_;refine aw ⟨by fail "d",?_⟩;erw [hstep];simp
  | true=>
   fail "w";refine' iH (aa (by fail "a") C.g_is_branch ?_);refine' aJ (sV hK ?_)
   have hfin:∀r:aN,r=gm ks i ai→(((bT ks (J.ar.take i) 0).map aT.ins).map aN.v)++[r.v]=((bT ks (J.ar.take (i + 1)) 0).map aT.ins).map aN.v:=fun r e=>by
    erw [hstep,e];simp [uL]
   refine xO (fun hb=>?_) (fun hb=>?_)
   ·obtain ⟨ins,fx,mp⟩:=ai;cases ins with
    | bl t k=>
     have hw:=W.bl i _ t k ha rfl
     fail "w";refine' uy (by fail "c") ?_;refine' aG rfl ?_;refine' aa (by fail "a") C.g_target_of ?_;refine' aJ (TF.up (m:=n + 1) (jc hK ?_) (by exact C8));refine ek (fun U=>?_) (fun h=>absurd hw.1 h);refine' aa (by fail "a") C.g_len ?_;refine' bt (by fail "c") (by simp [JO.rows];omega) ?_;refine' ek (fun U=>?_) (fun h=>absurd (by simpa [JO.rows,aN.two] using hw.2) h);refine' aa (by fail "a") C.g_moved_row ?_;refine' aJ (TF.up (m:=n + 3) (sO C (by exact An hks hz) hw.1 (by exact Ej hw hks) (by exact Ei hlt hks) ?_) (by exact Eh));fail "f";fail "w";fail "t";refine am (by fail "b") (by simp;exact C7 hml htl hlt hz) ?_;erw [hfin (.bl _ k) rfl];fail "w";fail "f";exact ⟨by fail "d",rfl⟩
    | _=>cases hb
   ·fail "w";refine' C2 (by fail "c") ?_;erw [jz ha];by_cases hf:ai.fx=some true
    ·erw [if_pos hf];obtain ⟨w1,w2,w3⟩:=W.fx i _ ha hf;refine' aG rfl ?_;refine' i5 (v:=.int ai.ins.three) (by fail "c") (by erw [jz ha,if_pos hf]) ?_;refine' al (v:=.int (place ks ai.ins.three.toNat:Nat)) (by fail "c") (eR (by exact Eg w3 hks hlt)) w2 (by exact Ef w3 hz) ?_;refine' ⟨by fail "g",?_⟩;fail "f";fail "w";fail "t";refine am (by fail "b") (by simp;exact C7 hml htl hlt hz) ?_
     have hr:(gm ks i ai).v=.tup [.str ai.ins.op,ai.ins.one,.int ai.ins.two,.int (place ks ai.ins.three.toNat:Nat)]:=by
      obtain ⟨ins,fx,mp⟩:=ai;cases hf;cases ins with
      | bl t k=>cases w1
      | reg op x y k=>rfl
      | br x k=>rfl
     erw [← hr,hfin _ rfl];fail "w";fail "f";exact ⟨by fail "d",rfl⟩
    ·erw [if_neg hf];refine' ak rfl ?_;fail "f";fail "w";fail "t";refine am (by fail "b") (by simp;exact C7 hml htl hlt hz) ?_
     rw [hfin ai.ins (by unfold gm;split;· rename_i e;rw [e] at hb;cases hb
                         ·erw [if_neg hf])]
     fail "w";fail "f";exact ⟨by fail "d",rfl⟩
 ·rintro σ' rfl;have e:J.ar.take ((List.range (Int.toNat (J.ar.length:Nat))).map fun i=>V.int (i:Nat)).length=J.ar:=by simp
  erw [e];fail "w";exact ⟨_,_,ay.lst (by fail "l"),q⟩
end
def b2 (v0 v1 v2 v3 v4 v5 v6 v7 v8 v9 v10 v11 v12:V):List (Str×V):=[("name",v0),("key",v1),("imports",v2),("rows",v3),("data_size",v4),("words",v5),("data_fixups",v6),("fixups",v7),("entries",v8),("pointers",v9),("maps",v10),("commands",v11),("body",v12)]
theorem JO.kvs_eq (J:JO):J.kvs=b2 (.str J.name) (.int J.key) (.lst []) (eC J.rows) (.int J.size) (.lst (J.words.map f7)) (.lst []) (.lst ((b7 J.ar 0).map gR)) (.lst []) (.lst []) (.dI ((bi J.ar 0).map co)) (.dS (J.cmds.map cC)) (.int (J.body:Nat)):=rfl
theorem qN {v0 v1 v2 v3 v4 v5 v6 v7 v8 v9 v10 v11 v12 v:V}:bj (b2 v0 v1 v2 v3 v4 v5 v6 v7 v8 v9 v10 v11 v12) "imports" v=b2 v0 v1 v v3 v4 v5 v6 v7 v8 v9 v10 v11 v12:=by kernel_rfl
theorem wu {v0 v1 v2 v3 v4 v5 v6 v7 v8 v9 v10 v11 v12:V}:aB (b2 v0 v1 v2 v3 v4 v5 v6 v7 v8 v9 v10 v11 v12) "rows" = some v3:=by kernel_rfl
theorem wp {v0 v1 v2 v3 v4 v5 v6 v7 v8 v9 v10 v11 v12 v:V}:bj (b2 v0 v1 v2 v3 v4 v5 v6 v7 v8 v9 v10 v11 v12) "rows" v=b2 v0 v1 v2 v v4 v5 v6 v7 v8 v9 v10 v11 v12:=by kernel_rfl
theorem nS {v0 v1 v2 v3 v4 v5 v6 v7 v8 v9 v10 v11 v12 v:V}:bj (b2 v0 v1 v2 v3 v4 v5 v6 v7 v8 v9 v10 v11 v12) "data_size" v=b2 v0 v1 v2 v3 v v5 v6 v7 v8 v9 v10 v11 v12:=by kernel_rfl
theorem tL {v0 v1 v2 v3 v4 v5 v6 v7 v8 v9 v10 v11 v12:V}:aB (b2 v0 v1 v2 v3 v4 v5 v6 v7 v8 v9 v10 v11 v12) "words" = some v5:=by kernel_rfl
theorem tK {v0 v1 v2 v3 v4 v5 v6 v7 v8 v9 v10 v11 v12 v:V}:bj (b2 v0 v1 v2 v3 v4 v5 v6 v7 v8 v9 v10 v11 v12) "words" v=b2 v0 v1 v2 v3 v4 v v6 v7 v8 v9 v10 v11 v12:=by kernel_rfl
theorem lA {v0 v1 v2 v3 v4 v5 v6 v7 v8 v9 v10 v11 v12 v:V}:bj (b2 v0 v1 v2 v3 v4 v5 v6 v7 v8 v9 v10 v11 v12) "data_fixups" v=b2 v0 v1 v2 v3 v4 v5 v v7 v8 v9 v10 v11 v12:=by kernel_rfl
theorem sz {v0 v1 v2 v3 v4 v5 v6 v7 v8 v9 v10 v11 v12:V}:aB (b2 v0 v1 v2 v3 v4 v5 v6 v7 v8 v9 v10 v11 v12) "fixups" = some v7:=by kernel_rfl
theorem qO {v0 v1 v2 v3 v4 v5 v6 v7 v8 v9 v10 v11 v12:V}:aB (b2 v0 v1 v2 v3 v4 v5 v6 v7 v8 v9 v10 v11 v12) "entries" = some v8:=by kernel_rfl
theorem pp {v0 v1 v2 v3 v4 v5 v6 v7 v8 v9 v10 v11 v12 v:V}:bj (b2 v0 v1 v2 v3 v4 v5 v6 v7 v8 v9 v10 v11 v12) "pointers" v=b2 v0 v1 v2 v3 v4 v5 v6 v7 v8 v v10 v11 v12:=by kernel_rfl
theorem wv {v0 v1 v2 v3 v4 v5 v6 v7 v8 v9 v10 v11 v12:V}:aB (b2 v0 v1 v2 v3 v4 v5 v6 v7 v8 v9 v10 v11 v12) "maps" = some v10:=by kernel_rfl
theorem wq {v0 v1 v2 v3 v4 v5 v6 v7 v8 v9 v10 v11 v12 v:V}:bj (b2 v0 v1 v2 v3 v4 v5 v6 v7 v8 v9 v10 v11 v12) "maps" v=b2 v0 v1 v2 v3 v4 v5 v6 v7 v8 v9 v v11 v12:=by kernel_rfl
theorem pq {v0 v1 v2 v3 v4 v5 v6 v7 v8 v9 v10 v11 v12:V}:aB (b2 v0 v1 v2 v3 v4 v5 v6 v7 v8 v9 v10 v11 v12) "commands" = some v11:=by kernel_rfl
theorem wt {v0 v1 v2 v3 v4 v5 v6 v7 v8 v9 v10 v11 v12 v:V}:bj (b2 v0 v1 v2 v3 v4 v5 v6 v7 v8 v9 v10 v11 v12) "body" v=b2 v0 v1 v2 v3 v4 v5 v6 v7 v8 v9 v10 v11 v:=by kernel_rfl
section
variable (C:kq) {n:Nat} {σ:aj}
theorem tz {a:Addr} {w v0 v1 v2 v3 v4 v5 v6 v7 v8 v9 v10 v11 v12:V}:td a w (b2 v0 v1 (.loc a) v3 v4 v5 v6 v7 v8 v9 v10 v11 v12) (b2 v0 v1 w v3 v4 v5 v6 v7 v8 v9 v10 v11 v12):=.cons .refl (.cons .refl (.cons .loc (.cons .refl (.cons .refl (.cons .refl (.cons .refl (.cons .refl (.cons .refl (.cons .refl (.cons .refl (.cons .refl (.cons .refl (.refl)))))))))))))
theorem uE {a:Addr} {w v0 v1 v2 v3 v4 v5 v6 v7 v8 v9 v10 v11 v12:V}:td a w (b2 v0 v1 v2 (.loc a) v4 v5 v6 v7 v8 v9 v10 v11 v12) (b2 v0 v1 v2 w v4 v5 v6 v7 v8 v9 v10 v11 v12):=.cons .refl (.cons .refl (.cons .refl (.cons .loc (.cons .refl (.cons .refl (.cons .refl (.cons .refl (.cons .refl (.cons .refl (.cons .refl (.cons .refl (.cons .refl (.refl)))))))))))))
theorem xm {a:Addr} {w v0 v1 v2 v3 v4 v5 v6 v7 v8 v9 v10 v11 v12:V}:td a w (b2 v0 v1 v2 v3 v4 (.loc a) v6 v7 v8 v9 v10 v11 v12) (b2 v0 v1 v2 v3 v4 w v6 v7 v8 v9 v10 v11 v12):=.cons .refl (.cons .refl (.cons .refl (.cons .refl (.cons .refl (.cons .loc (.cons .refl (.cons .refl (.cons .refl (.cons .refl (.cons .refl (.cons .refl (.cons .refl (.refl)))))))))))))
theorem iM {a:Addr} {w v0 v1 v2 v3 v4 v5 v6 v7 v8 v9 v10 v11 v12:V}:td a w (b2 v0 v1 v2 v3 v4 v5 (.loc a) v7 v8 v9 v10 v11 v12) (b2 v0 v1 v2 v3 v4 v5 w v7 v8 v9 v10 v11 v12):=.cons .refl (.cons .refl (.cons .refl (.cons .refl (.cons .refl (.cons .refl (.cons .loc (.cons .refl (.cons .refl (.cons .refl (.cons .refl (.cons .refl (.cons .refl (.refl)))))))))))))
theorem lr {a:Addr} {w v0 v1 v2 v3 v4 v5 v6 v7 v8 v9 v10 v11 v12:V}:td a w (b2 v0 v1 v2 v3 v4 v5 v6 (.loc a) v8 v9 v10 v11 v12) (b2 v0 v1 v2 v3 v4 v5 v6 w v8 v9 v10 v11 v12):=.cons .refl (.cons .refl (.cons .refl (.cons .refl (.cons .refl (.cons .refl (.cons .refl (.cons .loc (.cons .refl (.cons .refl (.cons .refl (.cons .refl (.cons .refl (.refl)))))))))))))
theorem k8 {a:Addr} {w v0 v1 v2 v3 v4 v5 v6 v7 v8 v9 v10 v11 v12:V}:td a w (b2 v0 v1 v2 v3 v4 v5 v6 v7 (.loc a) v9 v10 v11 v12) (b2 v0 v1 v2 v3 v4 v5 v6 v7 w v9 v10 v11 v12):=.cons .refl (.cons .refl (.cons .refl (.cons .refl (.cons .refl (.cons .refl (.cons .refl (.cons .refl (.cons .loc (.cons .refl (.cons .refl (.cons .refl (.cons .refl (.refl)))))))))))))
theorem lR {a:Addr} {w v0 v1 v2 v3 v4 v5 v6 v7 v8 v9 v10 v11 v12:V}:td a w (b2 v0 v1 v2 v3 v4 v5 v6 v7 v8 (.loc a) v10 v11 v12) (b2 v0 v1 v2 v3 v4 v5 v6 v7 v8 w v10 v11 v12):=.cons .refl (.cons .refl (.cons .refl (.cons .refl (.cons .refl (.cons .refl (.cons .refl (.cons .refl (.cons .refl (.cons .loc (.cons .refl (.cons .refl (.cons .refl (.refl)))))))))))))
theorem uF {a:Addr} {w v0 v1 v2 v3 v4 v5 v6 v7 v8 v9 v10 v11 v12:V}:td a w (b2 v0 v1 v2 v3 v4 v5 v6 v7 v8 v9 (.loc a) v11 v12) (b2 v0 v1 v2 v3 v4 v5 v6 v7 v8 v9 w v11 v12):=.cons .refl (.cons .refl (.cons .refl (.cons .refl (.cons .refl (.cons .refl (.cons .refl (.cons .refl (.cons .refl (.cons .refl (.cons .loc (.cons .refl (.cons .refl (.refl)))))))))))))
theorem iN {a:Addr} {w v0 v1 v2 v3 v4 v5 v6 v7 v8 v9 v10 v11 v12:V}:td a w (b2 v0 v1 v2 v3 v4 v5 v6 v7 v8 v9 v10 (.loc a) v12) (b2 v0 v1 v2 v3 v4 v5 v6 v7 v8 v9 v10 w v12):=.cons .refl (.cons .refl (.cons .refl (.cons .refl (.cons .refl (.cons .refl (.cons .refl (.cons .refl (.cons .refl (.cons .refl (.cons .refl (.cons .loc (.cons .refl (.refl)))))))))))))
include C
theorem rF {a dx:Addr} {v0 v1 v2 v3 v4 v5 v6 v7 v8 v9 v10 v11 v12 u v:V} {Q:aj→Prop} {σ':aj} (h:At σ a (.inst 83 dx)) (h':fK σ dx (.dS (b2 v0 v1 v2 v3 v4 v5 v6 v7 v8 v9 v10 v11 v12)) (.dS (b2 v0 v1 v v3 v4 v5 v6 v7 v8 v9 v10 v11 v12)) σ') (q:Q σ'):T3 n (fun x U z=>setAttr x "imports" z) (.loc a) u v σ Q:=
 bd h (by erw[qN];exact h') (i8 C) q (by show 13≤1000;omega)
theorem mN {a dx:Addr} {v0 v1 v2 v3 v4 v5 v6 v7 v8 v9 v10 v11 v12 u v:V} {Q:aj→Prop} {σ':aj} (h:At σ a (.inst 83 dx)) (h':fK σ dx (.dS (b2 v0 v1 v2 v3 v4 v5 v6 v7 v8 v9 v10 v11 v12)) (.dS (b2 v0 v1 v2 v v4 v5 v6 v7 v8 v9 v10 v11 v12)) σ') (q:Q σ'):T3 n (fun x U z=>setAttr x "rows" z) (.loc a) u v σ Q:=
 bd h (by erw[wp];exact h') (gi C) q (by show 13≤1000;omega)
theorem mO {a dx:Addr} {v0 v1 v2 v3 v4 v5 v6 v7 v8 v9 v10 v11 v12:V} {Q:V→aj→Prop} (h:At σ a (.inst 83 dx)) (h':At σ dx (.dS (b2 v0 v1 v2 v3 v4 v5 v6 v7 v8 v9 v10 v11 v12))) (q:Q v3 σ):T1 n (fun x=>getAttr x "rows" true) (.loc a) σ Q:=f5 h h' wu (gi C) q
theorem oV {a dx:Addr} {v0 v1 v2 v3 v4 v5 v6 v7 v8 v9 v10 v11 v12 u v:V} {Q:aj→Prop} {σ':aj} (h:At σ a (.inst 83 dx)) (h':fK σ dx (.dS (b2 v0 v1 v2 v3 v4 v5 v6 v7 v8 v9 v10 v11 v12)) (.dS (b2 v0 v1 v2 v3 v v5 v6 v7 v8 v9 v10 v11 v12)) σ') (q:Q σ'):T3 n (fun x U z=>setAttr x "data_size" z) (.loc a) u v σ Q:=
 bd h (by erw[nS];exact h') (eF C) q (by show 13≤1000;omega)
theorem vI {a dx:Addr} {v0 v1 v2 v3 v4 v5 v6 v7 v8 v9 v10 v11 v12 u v:V} {Q:aj→Prop} {σ':aj} (h:At σ a (.inst 83 dx)) (h':fK σ dx (.dS (b2 v0 v1 v2 v3 v4 v5 v6 v7 v8 v9 v10 v11 v12)) (.dS (b2 v0 v1 v2 v3 v4 v v6 v7 v8 v9 v10 v11 v12)) σ') (q:Q σ'):T3 n (fun x U z=>setAttr x "words" z) (.loc a) u v σ Q:=
 bd h (by erw[tK];exact h') (iP C) q (by show 13≤1000;omega)
theorem vK {a dx:Addr} {v0 v1 v2 v3 v4 v5 v6 v7 v8 v9 v10 v11 v12:V} {Q:V→aj→Prop} (h:At σ a (.inst 83 dx)) (h':At σ dx (.dS (b2 v0 v1 v2 v3 v4 v5 v6 v7 v8 v9 v10 v11 v12))) (q:Q v5 σ):T1 n (fun x=>getAttr x "words" true) (.loc a) σ Q:=f5 h h' tL (iP C) q
theorem mc {a dx:Addr} {v0 v1 v2 v3 v4 v5 v6 v7 v8 v9 v10 v11 v12 u v:V} {Q:aj→Prop} {σ':aj} (h:At σ a (.inst 83 dx)) (h':fK σ dx (.dS (b2 v0 v1 v2 v3 v4 v5 v6 v7 v8 v9 v10 v11 v12)) (.dS (b2 v0 v1 v2 v3 v4 v5 v v7 v8 v9 v10 v11 v12)) σ') (q:Q σ'):T3 n (fun x U z=>setAttr x "data_fixups" z) (.loc a) u v σ Q:=
 bd h (by erw[lA];exact h') (eG C) q (by show 13≤1000;omega)
theorem tx {a dx:Addr} {v0 v1 v2 v3 v4 v5 v6 v7 v8 v9 v10 v11 v12:V} {Q:V→aj→Prop} (h:At σ a (.inst 83 dx)) (h':At σ dx (.dS (b2 v0 v1 v2 v3 v4 v5 v6 v7 v8 v9 v10 v11 v12))) (q:Q v7 σ):T1 n (fun x=>getAttr x "fixups" true) (.loc a) σ Q:=f5 h h' sz (ju C) q
theorem rG {a dx:Addr} {v0 v1 v2 v3 v4 v5 v6 v7 v8 v9 v10 v11 v12:V} {Q:V→aj→Prop} (h:At σ a (.inst 83 dx)) (h':At σ dx (.dS (b2 v0 v1 v2 v3 v4 v5 v6 v7 v8 v9 v10 v11 v12))) (q:Q v8 σ):T1 n (fun x=>getAttr x "entries" true) (.loc a) σ Q:=f5 h h' qO (fT C) q
theorem qt {a dx:Addr} {v0 v1 v2 v3 v4 v5 v6 v7 v8 v9 v10 v11 v12 u v:V} {Q:aj→Prop} {σ':aj} (h:At σ a (.inst 83 dx)) (h':fK σ dx (.dS (b2 v0 v1 v2 v3 v4 v5 v6 v7 v8 v9 v10 v11 v12)) (.dS (b2 v0 v1 v2 v3 v4 v5 v6 v7 v8 v v10 v11 v12)) σ') (q:Q σ'):T3 n (fun x U z=>setAttr x "pointers" z) (.loc a) u v σ Q:=
 bd h (by erw[pp];exact h') (gj C) q (by show 13≤1000;omega)
theorem wV {a dx:Addr} {v0 v1 v2 v3 v4 v5 v6 v7 v8 v9 v10 v11 v12 u v:V} {Q:aj→Prop} {σ':aj} (h:At σ a (.inst 83 dx)) (h':fK σ dx (.dS (b2 v0 v1 v2 v3 v4 v5 v6 v7 v8 v9 v10 v11 v12)) (.dS (b2 v0 v1 v2 v3 v4 v5 v6 v7 v8 v9 v v11 v12)) σ') (q:Q σ'):T3 n (fun x U z=>setAttr x "maps" z) (.loc a) u v σ Q:=
 bd h (by erw[wq];exact h') (kE C) q (by show 13≤1000;omega)
theorem xd {a dx:Addr} {v0 v1 v2 v3 v4 v5 v6 v7 v8 v9 v10 v11 v12:V} {Q:V→aj→Prop} (h:At σ a (.inst 83 dx)) (h':At σ dx (.dS (b2 v0 v1 v2 v3 v4 v5 v6 v7 v8 v9 v10 v11 v12))) (q:Q v10 σ):T1 n (fun x=>getAttr x "maps" true) (.loc a) σ Q:=f5 h h' wv (kE C) q
theorem qx {a dx:Addr} {v0 v1 v2 v3 v4 v5 v6 v7 v8 v9 v10 v11 v12:V} {Q:V→aj→Prop} (h:At σ a (.inst 83 dx)) (h':At σ dx (.dS (b2 v0 v1 v2 v3 v4 v5 v6 v7 v8 v9 v10 v11 v12))) (q:Q v11 σ):T1 n (fun x=>getAttr x "commands" true) (.loc a) σ Q:=f5 h h' pq (gk C) q
theorem wW {a dx:Addr} {v0 v1 v2 v3 v4 v5 v6 v7 v8 v9 v10 v11 v12 u v:V} {Q:aj→Prop} {σ':aj} (h:At σ a (.inst 83 dx)) (h':fK σ dx (.dS (b2 v0 v1 v2 v3 v4 v5 v6 v7 v8 v9 v10 v11 v12)) (.dS (b2 v0 v1 v2 v3 v4 v5 v6 v7 v8 v9 v10 v11 v)) σ') (q:Q σ'):T3 n (fun x U z=>setAttr x "body" z) (.loc a) u v σ Q:=
 bd h (by erw[wt];exact h') (kF C) q (by show 13≤1000;omega)
end
def uN (x dx im ro wo df fx en po mp cm:Addr) (name:Str) (key:Int) (σ:aj):aj:=
 (cm,.dS [])::(mp,.dI [])::(po,.lst [])::(en,.lst [])::(fx,.lst [])::(df,.lst [])::(wo,.lst [])::(ro,.lst [])::(im,.lst [])::(x,.inst 83 dx)::
  (dx,.dS (b2 (.str name) (.int key) (.loc im) (.loc ro) (.int 0) (.loc wo) (.loc df) (.loc fx) (.loc en) (.loc po) (.loc mp) (.loc cm) (.int 0)))::σ
section
variable (C:kq) {n:Nat} {σ:aj} {Q:V→aj→Prop}
include C
theorem ub {x dx:Addr} {name:Str} {key:Int} (q:∀im ro wo df fx en po mp cm,Q .none (uN x dx im ro wo df fx en po mp cm name key σ)):TF (n+1) 80 [.loc x,.str name,.int key] ((x,.inst 83 dx)::(dx,.dS [])::σ) Q:=by
 delta C n σ Q x dx name key q at ⊢;have hK:=C.hK
 refine aW (by erw[hK];rfl) rfl rfl (by erw[hK];nofun) (by nofun) (by nofun) (md fun U U U=>rfl) ?_;delta c;fail "j";fail "w";refine' bS ?_;refine' bd (kvs:=[]) (by fail "e") (by erw[show bj ([]:List (Str×V)) "name" (.str name)=([("name",.str name)]:List (Str×V))by nofun];fail "b") (qF C) ?_ (by simp);refine' bS ?_;refine' bd (kvs:=[("name",.str name)]) (by fail "e") (by erw[show bj ([("name",.str name)]:List (Str×V)) "key" (.int key)=([("name",.str name),("key",.int key)]:List (Str×V))by nofun];fail "b") (tD C) ?_ (by simp);refine' b8 ?_;refine⟨by decide,?_⟩;delta a2;fail "w";refine' bS ?_;refine' bd (kvs:=[("name",.str name),("key",.int key)]) (by fail "e") (by erw[show bj ([("name",.str name),("key",.int key)]:List (Str×V)) "imports" (.loc a2)=([("name",.str name),("key",.int key),("imports",.loc a2)]:List (Str×V))by nofun];fail "b") (i8 C) ?_ (by simp);refine' b8 ?_;refine⟨by decide,?_⟩;delta a3;fail "w";refine' bS ?_;refine' bd (kvs:=[("name",.str name),("key",.int key),("imports",.loc a2)]) (by fail "e") (by erw[show bj ([("name",.str name),("key",.int key),("imports",.loc a2)]:List (Str×V)) "rows" (.loc a3)=([("name",.str name),("key",.int key),("imports",.loc a2),("rows",.loc a3)]:List (Str×V))by nofun];fail "b") (gi C) ?_ (by simp);refine' bS ?_;refine' bd (kvs:=[("name",.str name),("key",.int key),("imports",.loc a2),("rows",.loc a3)]) (by fail "e") (by erw[show bj ([("name",.str name),("key",.int key),("imports",.loc a2),("rows",.loc a3)]:List (Str×V)) "data_size" (.int 0)=([("name",.str name),("key",.int key),("imports",.loc a2),("rows",.loc a3),("data_size",.int 0)]:List (Str×V))by nofun];fail "b") (eF C) ?_ (by simp);refine' b8 ?_;refine⟨by decide,?_⟩;delta a5;fail "w";refine' bS ?_;refine' bd (kvs:=[("name",.str name),("key",.int key),("imports",.loc a2),("rows",.loc a3),("data_size",.int 0)]) (by fail "e") (by erw[show bj ([("name",.str name),("key",.int key),("imports",.loc a2),("rows",.loc a3),("data_size",.int 0)]:List (Str×V)) "words" (.loc a5)=([("name",.str name),("key",.int key),("imports",.loc a2),("rows",.loc a3),("data_size",.int 0),("words",.loc a5)]:List (Str×V))by nofun];fail "b") (iP C) ?_ (by simp);refine' b8 ?_;refine⟨by decide,?_⟩;delta a6;fail "w";refine' bS ?_;refine' bd (kvs:=[("name",.str name),("key",.int key),("imports",.loc a2),("rows",.loc a3),("data_size",.int 0),("words",.loc a5)]) (by fail "e") (by erw[show bj ([("name",.str name),("key",.int key),("imports",.loc a2),("rows",.loc a3),("data_size",.int 0),("words",.loc a5)]:List (Str×V)) "data_fixups" (.loc a6)=([("name",.str name),("key",.int key),("imports",.loc a2),("rows",.loc a3),("data_size",.int 0),("words",.loc a5),("data_fixups",.loc a6)]:List (Str×V))by nofun];fail "b") (eG C) ?_ (by simp);refine' b8 ?_;refine⟨by decide,?_⟩;delta a7;fail "w";refine' bS ?_;refine' bd (kvs:=[("name",.str name),("key",.int key),("imports",.loc a2),("rows",.loc a3),("data_size",.int 0),("words",.loc a5),("data_fixups",.loc a6)]) (by fail "e") (by erw[show bj ([("name",.str name),("key",.int key),("imports",.loc a2),("rows",.loc a3),("data_size",.int 0),("words",.loc a5),("data_fixups",.loc a6)]:List (Str×V)) "fixups" (.loc a7)=([("name",.str name),("key",.int key),("imports",.loc a2),("rows",.loc a3),("data_size",.int 0),("words",.loc a5),("data_fixups",.loc a6),("fixups",.loc a7)]:List (Str×V))by nofun];fail "b") (ju C) ?_ (by simp);refine' b8 ?_;refine⟨by decide,?_⟩;delta a8;fail "w";refine' bS ?_;refine' bd (kvs:=[("name",.str name),("key",.int key),("imports",.loc a2),("rows",.loc a3),("data_size",.int 0),("words",.loc a5),("data_fixups",.loc a6),("fixups",.loc a7)]) (by fail "e") (by erw[show bj ([("name",.str name),("key",.int key),("imports",.loc a2),("rows",.loc a3),("data_size",.int 0),("words",.loc a5),("data_fixups",.loc a6),("fixups",.loc a7)]:List (Str×V)) "entries" (.loc a8)=([("name",.str name),("key",.int key),("imports",.loc a2),("rows",.loc a3),("data_size",.int 0),("words",.loc a5),("data_fixups",.loc a6),("fixups",.loc a7),("entries",.loc a8)]:List (Str×V))by nofun];fail "b") (fT C) ?_ (by simp);refine' b8 ?_;refine⟨by decide,?_⟩;delta a9;fail "w";refine' bS ?_;refine' bd (kvs:=[("name",.str name),("key",.int key),("imports",.loc a2),("rows",.loc a3),("data_size",.int 0),("words",.loc a5),("data_fixups",.loc a6),("fixups",.loc a7),("entries",.loc a8)]) (by fail "e") (by erw[show bj ([("name",.str name),("key",.int key),("imports",.loc a2),("rows",.loc a3),("data_size",.int 0),("words",.loc a5),("data_fixups",.loc a6),("fixups",.loc a7),("entries",.loc a8)]:List (Str×V)) "pointers" (.loc a9)=([("name",.str name),("key",.int key),("imports",.loc a2),("rows",.loc a3),("data_size",.int 0),("words",.loc a5),("data_fixups",.loc a6),("fixups",.loc a7),("entries",.loc a8),("pointers",.loc a9)]:List (Str×V))by nofun];fail "b") (gj C) ?_ (by simp);refine f9 ?_;delta a10;fail "w";refine' bS ?_;refine' bd (kvs:=[("name",.str name),("key",.int key),("imports",.loc a2),("rows",.loc a3),("data_size",.int 0),("words",.loc a5),("data_fixups",.loc a6),("fixups",.loc a7),("entries",.loc a8),("pointers",.loc a9)]) (by fail "e") (by erw[show bj ([("name",.str name),("key",.int key),("imports",.loc a2),("rows",.loc a3),("data_size",.int 0),("words",.loc a5),("data_fixups",.loc a6),("fixups",.loc a7),("entries",.loc a8),("pointers",.loc a9)]:List (Str×V)) "maps" (.loc a10)=([("name",.str name),("key",.int key),("imports",.loc a2),("rows",.loc a3),("data_size",.int 0),("words",.loc a5),("data_fixups",.loc a6),("fixups",.loc a7),("entries",.loc a8),("pointers",.loc a9),("maps",.loc a10)]:List (Str×V))by nofun];fail "b") (kE C) ?_ (by simp);refine gC ?_;delta a11;fail "w";refine' bS ?_;refine' bd (kvs:=[("name",.str name),("key",.int key),("imports",.loc a2),("rows",.loc a3),("data_size",.int 0),("words",.loc a5),("data_fixups",.loc a6),("fixups",.loc a7),("entries",.loc a8),("pointers",.loc a9),("maps",.loc a10)]) (by fail "e") (by erw[show bj ([("name",.str name),("key",.int key),("imports",.loc a2),("rows",.loc a3),("data_size",.int 0),("words",.loc a5),("data_fixups",.loc a6),("fixups",.loc a7),("entries",.loc a8),("pointers",.loc a9),("maps",.loc a10)]:List (Str×V)) "commands" (.loc a11)=([("name",.str name),("key",.int key),("imports",.loc a2),("rows",.loc a3),("data_size",.int 0),("words",.loc a5),("data_fixups",.loc a6),("fixups",.loc a7),("entries",.loc a8),("pointers",.loc a9),("maps",.loc a10),("commands",.loc a11)]:List (Str×V))by nofun];fail "b") (gk C) ?_ (by simp);refine' bS ?_;refine' bd (kvs:=[("name",.str name),("key",.int key),("imports",.loc a2),("rows",.loc a3),("data_size",.int 0),("words",.loc a5),("data_fixups",.loc a6),("fixups",.loc a7),("entries",.loc a8),("pointers",.loc a9),("maps",.loc a10),("commands",.loc a11)]) (by fail "e") (by erw[show bj ([("name",.str name),("key",.int key),("imports",.loc a2),("rows",.loc a3),("data_size",.int 0),("words",.loc a5),("data_fixups",.loc a6),("fixups",.loc a7),("entries",.loc a8),("pointers",.loc a9),("maps",.loc a10),("commands",.loc a11)]:List (Str×V)) "body" (.int 0)=([("name",.str name),("key",.int key),("imports",.loc a2),("rows",.loc a3),("data_size",.int 0),("words",.loc a5),("data_fixups",.loc a6),("fixups",.loc a7),("entries",.loc a8),("pointers",.loc a9),("maps",.loc a10),("commands",.loc a11),("body",.int 0)]:List (Str×V))by nofun];fail "b") (kF C) ?_ (by simp);refine aw ?_;exact q _ _ _ _ _ _ _ _ _
end
theorem oA:∀{a b:List Int},a.Perm b→a.Pairwise (·≤·)→b.Pairwise (·≤·)→a=b
 | [],b,h,_,_=>h.nil_eq
 | x::r,[],h,_,_=>by have:=h.length_eq;simp at this
 | x::r,y::t,h,ha,hb=>by
  rw[List.pairwise_cons]at ha hb
  have e:x=y:=by
   have h1:x∈y::t:=h.mem_iff.mp (.head _)
   have h2:y∈x::r:=h.mem_iff.mpr (.head _)
   rcases List.mem_cons.mp h1 with e|h1
   ·exact e
   ·rcases List.mem_cons.mp h2 with e|h2
    ·exact e.symm
    ·exact Int.le_antisymm (ha.1 _ h2) (hb.1 _ h1)
  subst e;erw[oA (List.Perm.cons_inv h) ha.2 hb.2]
theorem fS {ks:List Bool} {i j:Nat} (h:i≤j):place ks i≤place ks j:=by
 unfold place;exact(List.take_sublist_take_left h).count_le true
theorem xy {ks:List Bool} {i j:Nat} (h:ks[i]?=some true) (hij:i<j):place ks i<place ks j:=by
 have h1:=cG h
 have h2:place ks (i+1)≤place ks j:=fS hij
 simp at h1;exact Ee h1 h2
theorem si {ks:List Bool} {i:Nat}:place ks i≤i:=by
 unfold place;have:=List.count_le_length (a:=true) (l:=ks.take i)
 have h2:=List.length_take_le i ks
 omega
def fA (ks:List Bool) (p:Nat×List Int):Option (Nat×List Int):=if ks[p.1-1]?.getD false then some (place ks (p.1-1)+1,p.2)else none
def iT (ks:List Bool) (p:Nat×Bool):Option (Nat×Bool):=if ks[p.1]?.getD false then some (place ks p.1,p.2)else none
theorem qb (ks:List Bool):∀(rs:List aT) (i:Nat),i+rs.length≤ks.length→b7 (bT ks rs i) (place ks i)=(b7 rs i).filterMap (iT ks)
 | [],i,_=>rfl
 | a::r,i,h=>by
  rw[List.length_cons]at h;have hk:ks[i]?=some (ks[i]'(by exact tB h)):=by simp
  have hp:=cG hk
  have ih:=qb ks r (i+1) (by exact zl h)
  erw[bO,bU,List.filterMap_append,←ih,hp,hk];generalize ks[i]'(by exact tB h)=k at hk hp;cases k with
  | false=>
   cases hfx:a.fx with
   | none=>simp
   | some b=>simp[iT,hk]
  | true=>
   cases hfx:a.fx with
   | none=>simp[gS,bU,uL,hfx]
   | some b=>simp[gS,bU,uL,hfx,iT,hk]
theorem nJ (ks:List Bool) (i:Nat) (a:aT):(gm ks i a).isBL=a.ins.isBL:=by
 delta ks i a at ⊢;obtain⟨ins,fx,mp⟩:=a;cases ins with
 | bl t k=>rfl
 | reg op x y k=>unfold gm;dsimp only;split<;>rfl
 | br x k=>unfold gm;dsimp only;split<;>rfl
theorem ly (ks:List Bool):∀(rs:List aT) (i:Nat),i+rs.length≤ks.length→bi (bT ks rs i) (place ks i)=(bi rs i).filterMap (fA ks)
 | [],i,_=>rfl
 | a::r,i,h=>by
  rw[List.length_cons]at h;have hk:ks[i]?=some (ks[i]'(by exact tB h)):=by simp
  have hp:=cG hk
  have ih:=ly ks r (i+1) (by exact zl h)
  erw[bO,bC,List.filterMap_append,←ih,hp,hk];generalize ks[i]'(by exact tB h)=k at hk hp;have hm:=nJ ks i a
  cases k with
  | false=>
   cases hfx:a.ins.isBL with
   | false=>simp
   | true=>simp[fA,hk]
  | true=>
   cases hfx:a.ins.isBL with
   | false=>rw[hfx]at hm;simp[j0,bC,uL,hm]
   | true=>rw[hfx]at hm;simp[j0,bC,uL,hm,fA,hk]
section
variable (C:kq) {n:Nat} {σ:aj} {Q:V→aj→Prop}
include C
set_option tactic.hygienic true in
theorem re {J:JO} {ks:List Bool} (W:WF J) (hsm:∀p∈bi J.ar 0,p.2.length≤1000000) (hks:ks.length=J.ar.length) (q:Q (.dI (((bi J.ar 0).filterMap (fA ks)).map co)) σ):TF (n+5) 176 [J.v,.lst (ks.map V.bool),qE ks] σ Q:=by
 delta C n σ Q J ks W hsm hks q at ⊢;have hK:=C.hK
 have hz:=W.small
 have hmk:((bi J.ar 0).map co).map (fun U=>U.1)=((bi J.ar 0).map (fun U=>U.1)).map fun j=>((j:Nat):Int):=by erw[List.map_map,List.map_map];rfl
 have hnd:(((bi J.ar 0).map co).map (fun U=>U.1)).Nodup:=by
  erw[hmk];exact((db J.ar 0).imp (fun h=>Nat.ne_of_lt h)).map (fun j=>((j:Nat):Int)) (fun a b h e=>h (Int.ofNat.inj e))
 refine cU (aW (by erw[hK];rfl) rfl rfl (by erw[hK];nofun) (by nofun) (by nofun) (md fun U U U=>rfl) fun c=>?_);fail "j";fail "w";refine f9 fun a=>?_
 delta c a at ⊢;fail "w";refine aO (fun i σ'=>σ'=(a,.dI ((((bi J.ar 0).take i).filterMap (fA ks)).map co))::σ) ?_;refine' bA (aa (by fail "a") C.g_sorted ?_);fail "i";fail "w";refine dH (us:=((bi J.ar 0).map co).map (fun U=>U.1)) (l0 .dI (by erw[List.length_map];have:=W.maps;exact xr this)) (by erw[List.length_map,List.length_map];have:=W.maps;exact xr this) fun us' a' hp hs=>?_
 have hus:us'=((bi J.ar 0).map co).map (fun U=>U.1):=by
  refine oA hp (hs (by erw[List.length_map,List.length_map];exact W.maps)) ?_;erw[hmk,List.pairwise_map];exact(db J.ar 0).imp fun h=>by exact AM h
 subst hus;refine⟨_,(a,.dI [])::σ,ay.lst (by fail "l"),trivial,_,.lst,by erw[List.take_zero];rfl,?_,?_⟩
 ·rintro i v σ' hv rfl;delta a' i v at hv;rw[List.getElem?_map,List.getElem?_map,List.getElem?_map,Option.map_map,Option.map_map,Option.map_eq_some_iff] at hv;obtain⟨⟨k,l⟩,hp',rfl⟩:=hv;have hm:=List.mem_of_getElem? hp'
  have hr:=gp hm
  have hilt:i<(bi J.ar 0).length:=by rw[List.getElem?_eq_some_iff] at hp';exact hp'.1
  have ht:(bi J.ar 0).take (i+1)=(bi J.ar 0).take i++[(k,l)]:=by erw[List.take_add_one,hp'];rfl
  obtain⟨k,rfl⟩:∃k',k=k'+1:=⟨k-1,by exact DI hr⟩;dsimp only at hr;have hkk:ks[k]?=some (ks[k]'(by exact Am hr hks)):=by simp
  generalize ks[k]'(by exact Am hr hks)=kk at hkk;show TA _ _ (.int ((k+1:Nat):Int)) _ _ _
  fail "w";refine' ak (by erw[beq_eq_false_iff_ne];exact Cg) ?_;refine' iH ?_;refine al (v:=.bool kk) (by fail "c") (by show _[(((k+1:Nat):Int)-1).toNat]?=_;erw[show(((k+1:Nat):Int)-1).toNat=k by exact zb,List.getElem?_map,hkk];rfl) (by exact za) (by exact Al hr hz) ?_;fail "w";cases kk with
  | false=>
   fail "w";fail "f";refine⟨by fail "d",?_⟩;erw[ht,List.filterMap_append];simp[fA,hkk]
  | true=>
   fail "w";refine' ak (by erw[beq_eq_false_iff_ne];exact Cg) ?_;refine al (v:=.int (place ks k:Nat)) (by fail "c") (by show _[(((k+1:Nat):Int)-1).toNat]?=_;erw[show(((k+1:Nat):Int)-1).toNat=k by exact zb];exact eR (by exact Ed hr hks)) (by exact za) (by exact Al hr hz) ?_;fail "w";refine' bA (aa (by fail "a") C.g_list ?_);fail "i";fail "w";refine' i5 (v:=.lst (l.map V.int)) .dI (cS hnd (List.mem_map.mpr ⟨_,hm,rfl⟩)) ?_;refine' eV .lst (by erw[List.length_map];exact hsm _ hm) fun b=>⟨_,_,ay.lst (by fail "l"),?_⟩
   refine' aU ?_
   have hnew:((place ks k:Nat):Int)+1∉((((bi J.ar 0).take i).filterMap (fA ks)).map co).map (fun U=>U.1):=by
    intro h;obtain⟨_,h1,e⟩:=List.mem_map.mp h;obtain⟨⟨k2,l2⟩,h2,rfl⟩:=List.mem_map.mp h1;obtain⟨⟨k3,l3⟩,h3,e3⟩:=List.mem_filterMap.mp h2;have hs1:=db J.ar 0
    have hmem:=List.mem_of_mem_take h3
    have hr3:=gp hmem
    have hlt:k3<k+1:=by
     have e4:(bi J.ar 0).map (fun U=>U.1)=((bi J.ar 0).take i).map (fun U=>U.1)++((bi J.ar 0).drop i).map (fun U=>U.1):=by erw[←List.map_append,List.take_append_drop]
     rw[e4,List.pairwise_append] at hs1;refine hs1.2.2 k3 (List.mem_map.mpr ⟨_,h3,rfl⟩) (k+1) ?_;erw[List.drop_eq_getElem_cons hilt];rw[List.getElem?_eq_some_iff] at hp';simp[hp'.2]
    unfold fA at e3;split at e3
    ·rename_i hk3;simp only[Option.some.injEq,Prod.mk.injEq] at e3;obtain⟨rfl,rfl⟩:=e3;dsimp only at hk3 hr3 hlt
     have h5:ks[k3-1]?=some true:=by
      cases hq:ks[k3-1]? with
      | none=>rw[hq] at hk3;cases hk3
      | some b=>rw[hq] at hk3;simp at hk3;erw[hk3]
     have h6:=xy h5 (show k3-1<k by exact Ec hr3 hlt)
     have e':((place ks (k3-1)+1:Nat):Int)=(place ks k:Nat)+1:=e
     exact Eb e' h6
    ·cases e3
   refine dy (by fail "b") ?_ ?_
   ·erw[ch hnew];fail "f";refine⟨by fail "d",?_⟩;erw[ht,List.filterMap_append,List.map_append];simp[fA,hkk,co]
   ·erw[List.length_map];have h1:=List.length_filterMap_le (fA ks) ((bi J.ar 0).take i)
    have h2:=List.length_take_le i (bi J.ar 0)
    have:=W.maps
    exact Ea h1 h2 hilt this
 ·rintro σ' rfl;erw[List.length_map,List.length_map,List.length_map,List.take_length];fail "w";exact⟨_,_,ay.dI (by fail "l"),q⟩
end
def JO.remap (J:JO) (ks:List Bool):JO:={ J with ar:=bT ks J.ar 0,cmds:=J.cmds.map (fun p=>(p.1,place ks p.2)),body:=place ks J.body }
theorem n4 (ks:List Bool):place ks 0=0:=by simp[place]
section
variable (C:kq) {n:Nat} {σ:aj} {Q:V→aj→Prop}
include C
theorem zP {J:JO} {ks:List Bool} (W:WF J) (hw:J.words.length≤1000) (hsm:∀p∈bi J.ar 0,p.2.length≤1000000) (hks:ks.length=J.ar.length) (q:Q (J.remap ks).v σ):TF (n+6) 183 [J.v,eC J.rows,.lst (ks.map V.bool)] σ Q:=by
 delta C n σ Q J ks W hw hsm hks q at ⊢;have hK:=C.hK
 have hz:=W.small
 have hcl:=W.cln
 have hF:(b7 J.ar 0).length≤1000:=by
  have:=bk (n:=J.ar.length) (dg J.ar 0) (fun j hj=>by obtain⟨p,hp,rfl⟩:=List.mem_map.mp hj;have:=(gq hp).2;exact vU this)
  rw[List.length_map]at this;omega
 refine cU (aW (by erw[hK];rfl) rfl rfl (by erw[hK];nofun) (by nofun) (by nofun) (md fun U U U=>rfl) ?_);delta c;fail "j";fail "w";refine' aa (by fail "a") C.g_new_places ?_;refine' aJ (TF.up (m:=n+1) (r8 C (by exact An hks hz) ?_) (by exact E9));refine' aa (by fail "a") C.g_ObjectFile ?_;fail "i";fail "w";fail "i";fail "w";refine aJ (TF.up (m:=n+2) (ml (fI:=80) (by erw[hK];nofun) (by erw[hK];nofun) (by erw[hK];nofun) ?_) (by exact E8));delta x dx;refine ub C ?_;delta im ro wo df fx en po mp cm;refine⟨rfl,?_⟩;unfold uN;fail "w";refine' bA (aa (by fail "a") C.g_list ?_);fail "i";fail "w";refine eV .lst (by simp) ?_;delta b;refine' ⟨_,_,ay.lst (by fail "l"),?_⟩;fail "p";fail "w";refine' aa (by fail "a") C.g_moved_rows ?_;refine' aJ (rc C W hks ?_);fail "p";fail "w";fail "i";fail "w";fail "p";fail "w";refine' bA (aa (by fail "a") C.g_list ?_);fail "i";fail "w";refine eV .lst (by erw[List.length_map];omega) ?_;delta b;refine' ⟨_,_,ay.lst (by fail "l"),?_⟩;fail "p";fail "w";refine' bA (aa (by fail "a") C.g_list ?_);fail "i";fail "w";refine eV .lst (by simp) ?_;delta b;refine' ⟨_,_,ay.lst (by fail "l"),?_⟩;fail "p";fail "w";refine aO (fun i σ'=>σ'=(cm,.dS ([]))::(mp,.dI [])::(po,.lst [])::(en,.lst [])::(fx,.lst ((((b7 J.ar 0).take i).filterMap (iT ks)).map gR))::(df,.lst [])::(wo,.lst [])::(ro,.lst [])::(im,.lst [])::(x,.inst 83 dx)::(dx,.dS (b2 (.str J.name) (.int J.key) (.lst []) (eC ((bT ks J.ar 0).map aT.ins)) (.int J.size) (.lst (J.words.map f7)) (.lst []) (.loc fx) (.loc en) (.loc po) (.loc mp) (.loc cm) (.int 0)))::σ) ?_;fail "i";refine⟨trivial,_,.lst,by erw[List.take_zero];rfl,?_,?_⟩
 ·delta i v σ' hv;intro z374;first|subst z374|cases z374
  rw[List.getElem?_map,Option.map_eq_some_iff]at hv;first|((first|(injection (tU hv)with j z375;injection z375 with k z376)|(injection hv with z375 z376;injection z375 with j k));injection z376 with hj z377;(first|subst z377|cases z377))|(obtain⟨⟨j,k⟩,hj,rfl⟩:=hv)
  have hjm:=List.mem_of_getElem? hj
  have hjl:=(gq hjm).2
  have ht:(b7 J.ar 0).take (i+1)=(b7 J.ar 0).take i++[(j,k)]:=by erw[List.take_add_one,hj];rfl
  have hkk:ks[j]?=some (ks[j]'(by exact Ag hjl hks)):=by simp
  generalize ks[j]'(by exact Ag hjl hks)=kk at hkk;unfold gR;fail "w";refine' iH ?_;refine' al (v:=.bool kk) (by fail "c") (by erw[List.getElem?_map];simp[hkk]) (by exact hU) (by exact C9 hjl hz) ?_;cases kk with
  | false=>
   fail "w";fail "f";refine⟨by fail "d",?_⟩;erw[ht,List.filterMap_append];simp[iT,hkk]
  | true=>
   fail "w";refine ap ?_;fail "k";refine' aH slot_list_append (by rfl) rfl (by fail "c") ?_;refine' al (v:=.int (place ks j:Nat)) (by fail "c") (by simpa using eR (ks:=ks) (i:=j) (by exact DH hjl hks)) (by exact hU) (by exact C9 hjl hz) ?_;refine' ⟨by fail "g",?_⟩;refine am (by fail "b") ?_ ?_
   ·erw[List.length_map];have h1:=List.length_filterMap_le (iT ks) ((b7 J.ar 0).take i)
    have h2:=List.length_take_le' i (b7 J.ar 0)
    exact E7 h1 h2 hF
   fail "w";fail "f";refine⟨by fail "d",?_⟩;erw[ht,List.filterMap_append,List.map_append];simp[iT,hkk,gR]
 delta σ';intro z378;first|subst z378|cases z378
 erw[List.length_map,List.take_length];fail "w";refine aO (fun i σ'=>σ'=(cm,.dS ([]))::(mp,.dI [])::(po,.lst [])::(en,.lst [])::(fx,.lst (((b7 J.ar 0).filterMap (iT ks)).map gR))::(df,.lst [])::(wo,.lst [])::(ro,.lst [])::(im,.lst [])::(x,.inst 83 dx)::(dx,.dS (b2 (.str J.name) (.int J.key) (.lst []) (eC ((bT ks J.ar 0).map aT.ins)) (.int J.size) (.lst (J.words.map f7)) (.lst []) (.loc fx) (.loc en) (.loc po) (.loc mp) (.loc cm) (.int 0)))::σ) ?_;fail "i";refine⟨trivial,_,.lst,rfl,fun i v σ' hv=>by simp at hv,?_⟩;delta σ';intro z379;first|subst z379|cases z379
 fail "w";refine' bA (aa (by fail "a") C.g_list ?_);fail "i";fail "w";refine eV .lst (by simp) ?_;delta b;refine' ⟨_,_,ay.lst (by fail "l"),?_⟩;fail "p";fail "w";refine' aa (by fail "a") C.g_moved_maps ?_;refine' aJ (re C W hsm hks ?_);fail "p";fail "w";refine aO (fun i σ'=>σ'=(cm,.dS (((J.cmds.take i).map (fun p=>(p.1,place ks p.2))).map cC))::(mp,.dI [])::(po,.lst [])::(en,.lst [])::(fx,.lst (((b7 J.ar 0).filterMap (iT ks)).map gR))::(df,.lst [])::(wo,.lst [])::(ro,.lst [])::(im,.lst [])::(x,.inst 83 dx)::(dx,.dS (b2 (.str J.name) (.int J.key) (.lst []) (eC ((bT ks J.ar 0).map aT.ins)) (.int J.size) (.lst (J.words.map f7)) (.lst []) (.loc fx) (.loc en) (.lst []) (.dI (((bi J.ar 0).filterMap (fA ks)).map co)) (.loc cm) (.int 0)))::σ) ?_;fail "i";refine⟨trivial,_,.dS,by erw[List.take_zero];rfl,?_,?_⟩
 ·delta i v σ' hv;intro z380;first|subst z380|cases z380
  rw[List.getElem?_map,List.getElem?_map,Option.map_map,Option.map_eq_some_iff]at hv;first|((first|(injection (tU hv)with nm z381;injection z381 with j z382)|(injection hv with z381 z382;injection z381 with nm j));injection z382 with hj z383;(first|subst z383|cases z383))|(obtain⟨⟨nm,j⟩,hj,rfl⟩:=hv)
  have hjm:=List.mem_of_getElem? hj
  have hjl:=W.cmds _ hjm
  have hilt:i<J.cmds.length:=by rw[List.getElem?_eq_some_iff]at hj;exact hj.1
  have ht:J.cmds.take (i+1)=J.cmds.take i++[(nm,j)]:=by erw[List.take_add_one,hj];rfl
  have hnd:((J.cmds.map cC).map (fun U=>U.1)).Nodup:=by erw[List.map_map];exact W.cnd
  show TA _ _ (.str nm) _ _ _
  fail "w";fail "i";fail "w";refine' bo (v:=.int (j:Nat)) .dS (cS hnd (List.mem_map.mpr ⟨_,hjm,rfl⟩)) ?_;refine' al (v:=.int (place ks j:Nat)) (by fail "c") (by simpa using eR (ks:=ks) (i:=j) (by exact Aj hjl hks)) (by exact hU) (by exact xw hjl hz) ?_;refine aU ?_;fail "k";fail "w"
  have hnew:nm∉(((J.cmds.take i).map (fun p=>(p.1,place ks p.2))).map cC).map (fun U=>U.1):=by
   erw[List.map_map,List.map_map];have e0:(((fun x:Str×V=>x.1)∘cC)∘fun p:Str×Nat=>(p.1,place ks p.2))=fun p=>p.1:=rfl
   erw[e0];have hn:=W.cnd
   have e4:J.cmds.map (fun U=>U.1)=(J.cmds.take i).map (fun U=>U.1)++(J.cmds.drop i).map (fun U=>U.1):=by erw[←List.map_append,List.take_append_drop]
   rw[e4,List.nodup_append]at hn;intro h;refine hn.2.2 nm h nm ?_ rfl;erw[List.drop_eq_getElem_cons hilt];rw[List.getElem?_eq_some_iff]at hj;simp[hj.2]
  refine f0 (by fail "b") ?_ (by simp;exact LO (by assumption));erw[ch hnew];fail "f";refine⟨by fail "d",?_⟩;erw[ht];simp[cC]
 delta σ';intro z384;first|subst z384|cases z384
 erw[List.length_map,List.length_map,List.take_length];fail "w";fail "i";fail "w";refine' al (v:=.int (place ks J.body:Nat)) (by fail "c") (by simpa using eR (ks:=ks) (i:=J.body) (by have:=W.body;exact Aj this hks)) (by exact hU) (by have:=W.body;exact xw this hz) ?_;fail "p";fail "w";have e1:b7 (bT ks J.ar 0) 0=(b7 J.ar 0).filterMap (iT ks):=by have:=qb ks J.ar 0 (by exact zc hks);rwa[n4]at this
 have e2:bi (bT ks J.ar 0) 0=(bi J.ar 0).filterMap (fA ks):=by have:=ly ks J.ar 0 (by exact zc hks);rwa[n4]at this
 have ev:(J.remap ks).v=.obj 83 (b2 (.str J.name) (.int J.key) (.lst []) (eC ((bT ks J.ar 0).map aT.ins)) (.int J.size) (.lst (J.words.map f7)) (.lst []) (.lst (((b7 J.ar 0).filterMap (iT ks)).map gR)) (.lst []) (.lst [])
  (.dI (((bi J.ar 0).filterMap (fA ks)).map co)) (.dS ((J.cmds.map (fun p=>(p.1,place ks p.2))).map cC)) (.int (place ks J.body:Nat))):=by
  erw[←e1,←e2];rfl
 rw[ev]at q
 refine⟨_,σ,ay.trans (ay.frz (gd.lst (a:=fx) (by fail "l")) (aR.cons bf.refl (aR.cons bf.refl (aR.cons bf.refl (aR.cons bf.refl (aR.cons bf.refl (aR.cons bf.refl (aR.cons bf.refl (aR.cons bf.refl (aR.cons bf.refl (aR.cons (bf.dS (lr (v7:=.none))) aR.refl)))))))))) .refl) (ay.trans (ay.frz (gd.lst (a:=en) (by fail "l")) (aR.cons bf.refl (aR.cons bf.refl (aR.cons bf.refl (aR.cons bf.refl (aR.cons bf.refl (aR.cons bf.refl (aR.cons bf.refl (aR.cons bf.refl (aR.cons (bf.dS (k8 (v8:=.none))) aR.refl))))))))) .refl)
  (ay.trans (ay.frz (gd.dS (a:=cm) (by fail "l")) (aR.cons bf.refl (aR.cons bf.refl (aR.cons bf.refl (aR.cons bf.refl (aR.cons bf.refl (aR.cons bf.refl (aR.cons bf.refl (aR.cons (bf.dS (iN (v11:=.none))) aR.refl)))))))) .refl) (ay.trans (ay.obj (by fail "l") (by fail "l")) (ay.drop (by fail "r"))))),q⟩
end
theorem jv {ks:List Bool}:∀{rs:List aT} {i0 j:Nat} {b:aT},(bT ks rs i0)[j]?=some b→∃(i:Nat) (a:aT),rs[i]?=some a∧ks[i0+i]?=some true∧b=uL ks (i0+i) a∧place ks i0+j=place ks (i0+i)
 | [],i0,j,b,h=>by simp[lv,bO]at h
 | a::r,i0,j,b,h=>by
  rw[bO]at h;cases hk:ks[i0]?.getD false with
  | false=>
   rw[hk]at h;simp at h;obtain⟨i,a',h1,h2,h3,h4⟩:=jv h;refine⟨i+1,a',by simpa using h1,by erw[←Nat.add_assoc,Nat.add_right_comm];exact h2,by erw[←Nat.add_assoc,Nat.add_right_comm];exact h3,?_⟩;erw[show i0+(i+1)=i0+1+i by exact tA,←h4];congr 1;cases hq:ks[i0]? with
   | none=>unfold place;erw[List.take_add_one,hq];simp
   | some k=>rw[hq]at hk;simp at hk;subst hk;erw[cG hq];simp
  | true=>
   have hq:ks[i0]?=some true:=by
    cases hq:ks[i0]? with
    | none=>rw[hq]at hk;cases hk
    | some k=>rw[hq]at hk;simp at hk;erw[hk]
   rw[hk]at h;simp at h;cases j with
   | zero=>
    simp at h;exact⟨0,a,by simp,by simpa using hq,by simp[h],by simp⟩
   | succ j=>
    simp at h;obtain⟨i,a',h1,h2,h3,h4⟩:=jv h;have hp:=cG hq
    simp at hp;refine⟨i+1,a',by simpa using h1,by erw[←Nat.add_assoc,Nat.add_right_comm];exact h2,by erw[←Nat.add_assoc,Nat.add_right_comm];exact h3,?_⟩;erw[show i0+(i+1)=i0+1+i by exact tA,←h4,hp];exact tA
theorem kI {ks:List Bool}:∀{rs:List aT} {i0:Nat},i0+rs.length≤ks.length→(bT ks rs i0).length+place ks i0=place ks (i0+rs.length)
 | [],i0,_=>by simp[lv,bO]
 | x::r,i0,h=>by
  rw[List.length_cons]at h;have hq:ks[i0]?=some (ks[i0]'(by exact tB h)):=by simp
  have hp:=cG hq
  have ih:=kI (ks:=ks) (rs:=r) (i0:=i0+1) (by exact zl h)
  erw[bO,List.length_append,hq,List.length_cons,show i0+(r.length+1)=i0+1+r.length by exact tA,←ih,hp];generalize ks[i0]'(by exact tB h)=k at *;cases k<;>simp<;>exact ID
theorem pM {J:JO} {ks:List Bool} (hks:ks.length=J.ar.length):(J.remap ks).ar.length=place ks J.ar.length:=by
 have:=kI (ks:=ks) (rs:=J.ar) (i0:=0) (by exact zc hks)
 rw[n4,Nat.zero_add]at this;simpa [JO.remap]using this
structure wD (J:JO):Prop where
 wf:WF J
 words:J.words.length≤1000
 mp:∀p∈bi J.ar 0,p.2.length≤1000000
theorem wD.remap {J:JO} {ks:List Bool} (W:wD J) (hks:ks.length=J.ar.length):wD (J.remap ks):=by
 delta J ks W hks at ⊢;have hl:=pM hks
 have e2:bi (bT ks J.ar 0) 0=(bi J.ar 0).filterMap (fA ks):=by have:=ly ks J.ar 0 (by exact zc hks);rwa[n4]at this
 refine⟨⟨?_,?_,?_,?_,?_,?_,?_,?_⟩,W.words,?_⟩
 ·delta j b t k hb hbl;injection (jv (ks:=ks) hb)with i a h1 h2 h3 h4;rw[Nat.zero_add]at h2 h3 h4;rw[n4,Nat.zero_add]at h4;erw[hl];subst h3;obtain⟨ins,fx,mp⟩:=a;delta ins fx mp at *;have hbl':=nJ ks i ⟨ins,fx,mp⟩
  cases ins with
  | bl t0 k0=>
   delta t0 k0 at *;injection (W.wf.bl i _ t0 k0 h1 rfl)with w1 w2;have e:gm ks i ⟨.bl t0 k0,fx,mp⟩=.bl t k:=hbl
   simp only[gm,aN.bl.injEq]at e;injection e with rfl rfl;have:=fS (ks:=ks) (show((i:Int)+1+t0).toNat≤J.ar.length by exact BA w2)
   exact IC h4 this
  | reg op x y z=>rw[show gm ks i ⟨.reg op x y z,fx,mp⟩=.bl t k from hbl]at hbl';cases hbl'
  | br x z=>rw[show gm ks i ⟨.br x z,fx,mp⟩=.bl t k from hbl]at hbl';cases hbl'
 ·delta j b hb hfx;injection (jv (ks:=ks) hb)with i a h1 h2 h3 h4;rw[Nat.zero_add]at h2 h3 h4;subst h3;have hfx':a.fx=some true:=hfx
  injection (W.wf.fx i a h1 hfx')with w1 w2 w3;erw[hl];have hm:=nJ ks i a
  rw[w1]at hm;have hp:=fS (ks:=ks) (show a.ins.three.toNat≤J.ar.length by exact IB w3)
  refine⟨hm,?_⟩
  have ht:(uL ks i a).ins.three=(place ks a.ins.three.toNat:Nat):=by
   obtain⟨ins,fx,mp⟩:=a;cases hfx';cases ins with
   | bl t k=>cases w1
   | reg op x y k=>rfl
   | br x k=>rfl
  erw[ht];exact IA hp
 ·show place ks J.body≤_
  erw[hl];exact fS W.wf.body
 ·delta p hp;injection (List.mem_map.mp hp)with q hq rfl;erw[hl];exact fS (W.wf.cmds q hq)
 ·show((J.cmds.map fun p=>(p.1,place ks p.2)).map (fun U=>U.1)).Nodup
  erw[List.map_map];exact W.wf.cnd
 ·show(J.cmds.map _).length≤60
  erw[List.length_map];exact W.wf.cln
 ·erw[hl];have:=si (ks:=ks) (i:=J.ar.length)
  have:=W.wf.small
  omega
 ·show(bi (bT ks J.ar 0) 0).length<64
  erw[e2];have:=List.length_filterMap_le (fA ks) (bi J.ar 0)
  have:=W.wf.maps
  omega
 ·delta p hp;change p∈bi (bT ks J.ar 0) 0 at hp;rw[e2]at hp;injection (List.mem_filterMap.mp hp)with q hq e;unfold fA at e;split at e
  ·cases e;exact W.mp q hq
  ·cases e
def cu (J:JO):List Nat:=J.body::(J.cmds.map (fun U=>U.2)++(cW J.ar (b7 J.ar 0)).map fun p=>p.2.toNat)
theorem dp.congr {rs:List aN} {ss ss':List Nat} (h:∀j,j∈ss→j∈ss') {i:Nat} (r:dp rs ss i):dp rs ss' i:=by
 induction r with
 | start h1 h2=>exact .start (h _ h1) h2
 | succ _ h1 h2 ih=>exact .succ ih h1 h2
 | call _ h1 h2 ih=>exact .call ih h1 h2
def tf (J J':JO):Prop:=∃ks:List Bool,ks.length=J.ar.length∧(∀i:Nat,ks[i]?=some true↔dp J.rows (cu J) i)∧J'=J.remap ks
inductive iw:JO→JO→Prop
 | stop {J J':JO}:tf J J'→J'.ar.length=J.ar.length→iw J J'
 | step {J J' J'':JO}:tf J J'→iw J' J''→iw J J''
def pv (l:List Nat) (j:Nat):List Nat:=if j∈l then l else l++[j]
set_option tactic.hygienic true in
theorem oG {l:List Nat} {j:Nat} (h:l.Nodup):(pv l j).Nodup:=by
 unfold pv;split
 ·exact h
 ·rename_i hj;erw[List.nodup_append];exact⟨h,by simp,fun a ha b hb e=>by simp at hb;subst hb;subst e;exact hj ha⟩
set_option tactic.hygienic true in
theorem t9 {l:List Nat} {i j:Nat}:i∈pv l j↔i∈l∨i=j:=by
 unfold pv;split
 ·rename_i hj;exact⟨.inl,fun h=>h.elim id fun e=>e▸hj⟩
 ·simp
theorem ta (l:List Nat) (j:Nat):(pv l j).length≤l.length+1:=by unfold pv;split<;>simp
set_option tactic.hygienic true in
theorem pJ (l:List Nat) (j:Nat):bj (d4 l) ((j:Nat):Int) (.bool true)=d4 (pv l j):=by
 unfold pv;split
 ·rename_i hj;induction l with
  | nil=>cases hj
  | cons x r ih=>
   show bj ((((x:Nat):Int),V.bool true)::d4 r) _ _=_
   by_cases e:x=j
   ·subst e;simp[cw,bn,d4]
   ·erw[bn,if_neg (fun q:((x:Nat):Int)=((j:Nat):Int)=>e (Int.ofNat.inj q)),ih (by rcases List.mem_cons.mp hj with h|h;exact absurd h.symm e;exact h)];rfl
 ·rename_i hj;erw[ch (fun h=>hj (jo.mp h))];unfold d4;simp
section
variable (C:kq) {n:Nat} {σ:aj} {Q:V→aj→Prop}
include C
theorem r0 {J:JO} (W:WF J) (q:Q (.dI []) σ):TF (n+2) 190 [J.v] σ Q:=by
 delta C n σ Q J W q at ⊢;have hK:=C.hK
 have hz:=W.small
 have hF:(cW J.ar (b7 J.ar 0)).length≤1000:=by
  have:=bk (n:=J.ar.length) (j5 J.ar) (fun j hj=>by obtain⟨⟨j',k⟩,hp,rfl⟩:=List.mem_map.mp hj;obtain⟨a,h,_⟩:=em.mp hp;rw[List.getElem?_eq_some_iff]at h;exact h.1)
  rw[List.length_map]at this;omega
 refine cU (aW (by erw[hK];rfl) rfl rfl (by erw[hK];nofun) (by nofun) (by nofun) (kO fun U=>rfl) ?_);delta c;fail "j";fail "w";refine' aa (by fail "a") C.g_own_addresses ?_;refine' aJ (TF.up (m:=n+1) (fw C hz ?_) (by omega));refine f9 ?_;delta a;fail "w";refine aO (fun i σ'=>σ'=(a,.dI [])::σ) ?_;refine' bA (aa (by fail "a") C.g_sorted ?_);refine dH (us:=((cW J.ar (b7 J.ar 0)).map kS).map (fun U=>U.1)) (l0 .dI (by erw[List.length_map];omega)) (by erw[List.length_map,List.length_map];omega) ?_;delta us' a' hp;delta u'1;refine⟨_,(a,.dI [])::σ,ay.lst (by fail "l"),trivial,_,.lst,rfl,?_,?_⟩
 ·delta i v σ' hv;delta z400;first|subst z400|cases z400
  rw[List.getElem?_map,Option.map_eq_some_iff]at hv;injection hv with z hz' rfl;have hm:=hp.mem_iff.mp (List.mem_of_getElem? hz')
  rw[ii]at hm;injection (List.mem_map.mp hm)with j hj rfl;first|((first|(injection (tU (List.mem_map.mp hj))with j' z405;injection z405 with k z406)|(injection (List.mem_map.mp hj)with z405 z406;injection z405 with j' k));injection z406 with hjk z407;(first|subst z407|cases z407))|(obtain⟨⟨j',k⟩,hjk,rfl⟩:=List.mem_map.mp hj)
  injection (em.mp hjk)with ar h1 h2 rfl;injection (W.fx _ _ h1 h2)with w1 w2 w3;show TA _ _ (.int ((j':Nat):Int)) _ _ _
  fail "w";refine' i5 (v:=.int ar.ins.three) (by fail "c") (by erw[jz h1,if_pos h2]) ?_;refine iF (fun U η' σ'=>η'=([("o",.val J.v),("held",.val (.dI ((cW J.ar (b7 J.ar 0)).map kS))),("found",.val (.loc a)),("holder",.val (.int (j':Nat))),("index",.val (.int ar.ins.three)),("own_addresses",.glb),("sorted",.glb),("len",.glb)]:aI)∧σ'=(a,.dI [])::σ) 0 ?_ ?_
  ·exact⟨rfl,rfl⟩
  ·delta u'2;delta η';delta σ';delta z412;injection z412 with rfl rfl;fail "w";refine' aa (by fail "a") C.g_len ?_;fail "i";fail "w";refine' bt .lst (by erw[cE];omega) ?_;erw[cE];refine ek (fun hlt=>?_) (fun hlt=>?_)
   ·fail "w";fail "i";fail "w";have hr:J.ar[ar.ins.three.toNat]?=some (J.ar[ar.ins.three.toNat]'(by exact LB (by assumption) (by assumption))):=by simp
    refine' al (v:=(J.ar[ar.ins.three.toNat]'(by exact LB (by assumption) (by assumption))).ins.v) .lst (by simp[JO.rows,List.getElem?_map,hr]) w2 (by exact Iz hlt hz) ?_;erw[w7];fail "w";fail "f";fail "w";fail "f";exact⟨by fail "d",rfl⟩
   ·fail "w";fail "f";fail "w";fail "f";exact⟨by fail "d",rfl⟩
 ·delta σ';delta z415;first|subst z415|cases z415
  fail "w";exact⟨_,_,ay.dI (by fail "l"),q⟩
theorem r7 {J:JO} (W:WF J) (q:∀ss:List Nat,ss.length≤2000→(∀j,j∈ss↔j∈cu J)→Q (iA ss) σ):TF (n+3) 197 [J.v] σ Q:=by
 delta C n σ Q J W q at ⊢;have hK:=C.hK
 have hz:=W.small
 have hcl:=W.cln
 have hF:(cW J.ar (b7 J.ar 0)).length≤1000:=by
  have:=bk (n:=J.ar.length) (j5 J.ar) (fun j hj=>by obtain⟨⟨j',k⟩,hp,rfl⟩:=List.mem_map.mp hj;obtain⟨a,h,_⟩:=em.mp hp;rw[List.getElem?_eq_some_iff]at h;exact h.1)
  rw[List.length_map]at this;omega
 refine cU (aW (by erw[hK];rfl) rfl rfl (by erw[hK];nofun) (by nofun) (by nofun) (kO fun U=>rfl) ?_);delta c;fail "j";fail "w";refine' aa (by fail "a") C.g_dict ?_;refine' aa (by fail "a") C.g_table_rows ?_;refine' aJ (r0 C W ?_);refine wN .dI (by simp) ?_;delta a;fail "w";refine' aU ?_;fail "i";fail "w";refine dy (by fail "b") ?_ (by simp);erw[show bj ([]:List (Int×V)) ((J.body:Nat):Int) (.bool true)=d4 [J.body]from rfl];fail "w";refine aO (fun i σ'=>σ'=(a,.dI (d4 [J.body]))::σ) ?_;fail "i";refine⟨trivial,_,.lst,rfl,fun i v σ' hv=>by simp at hv,?_⟩;delta σ';intro z416;first|subst z416|cases z416
 fail "w";refine aO (fun i σ'=>∃l:List Nat,l.Nodup∧l.length≤1+i∧(∀j,j∈l↔j=J.body∨j∈(J.cmds.take i).map (fun U=>U.2))∧σ'=(a,.dI (d4 l))::σ) ?_;fail "i";refine⟨trivial,_,.dS,⟨[J.body],by simp,by simp,fun j=>by simp,rfl⟩,?_,?_⟩
 ·delta i v σ' hv;intro z417;injection z417 with l hl1 hl2 hl3 rfl;rw[List.getElem?_map,List.getElem?_map,Option.map_map,Option.map_eq_some_iff]at hv;first|((first|(injection (tU hv)with nm z422;injection z422 with j z423)|(injection hv with z422 z423;injection z422 with nm j));injection z423 with hj z424;(first|subst z424|cases z424))|(obtain⟨⟨nm,j⟩,hj,rfl⟩:=hv)
  have hjm:=List.mem_of_getElem? hj
  have hilt:i<J.cmds.length:=by rw[List.getElem?_eq_some_iff]at hj;exact hj.1
  have ht:J.cmds.take (i+1)=J.cmds.take i++[(nm,j)]:=by erw[List.take_add_one,hj];rfl
  have hnd:((J.cmds.map cC).map (fun U=>U.1)).Nodup:=by erw[List.map_map];exact W.cnd
  show TA _ _ (.str nm) _ _ _
  fail "w";refine' aU ?_;fail "i";fail "w";refine bo (v:=.int (j:Nat)) .dS (cS hnd (List.mem_map.mpr ⟨_,hjm,rfl⟩)) ?_;refine dy (by fail "b") ?_ (by erw[d4,List.length_map];exact Iy hl2 hilt hcl);erw[pJ];fail "f";refine⟨by fail "d",pv l j,oG hl1,by have:=ta l j;exact Ix this hl2,?_,rfl⟩;delta x;erw[t9,hl3,ht,List.map_append,List.mem_append];simp only[List.map_cons,List.map_nil,List.mem_singleton];exact or_assoc
 delta σ';intro z425;injection z425 with l hl1 hl2 hl3 rfl;rw[List.length_map,List.length_map]at hl2 hl3;rw[List.take_length]at hl3;fail "w";refine' aa (by fail "a") C.g_own_addresses ?_;refine' aJ (TF.up (m:=n+1) (fw C hz ?_) (by exact yt));refine' aO (fun i σ'=>∃l:List Nat,l.Nodup∧l.length≤1+J.cmds.length+i∧(∀j,j∈l↔(j=J.body∨j∈J.cmds.map (fun U=>U.2))∨j∈((cW J.ar (b7 J.ar 0)).take i).map fun p=>p.2.toNat)∧σ'=(a,.dI (d4 l))::σ) ?_;refine⟨trivial,_,.dI,⟨l,hl1,by exact Iw hl2,fun j=>by erw[hl3];simp,rfl⟩,?_,?_⟩
 ·delta i v σ' hv;intro z430;injection z430 with l hl1 hl2 hl3 rfl;rw[List.getElem?_map,List.getElem?_map,Option.map_map,Option.map_eq_some_iff]at hv;first|((first|(injection (tU hv)with j z435;injection z435 with k z436)|(injection hv with z435 z436;injection z435 with j k));injection z436 with hj z437;(first|subst z437|cases z437))|(obtain⟨⟨j,k⟩,hj,rfl⟩:=hv)
  have hjm:=List.mem_of_getElem? hj
  have hilt:i<(cW J.ar (b7 J.ar 0)).length:=by rw[List.getElem?_eq_some_iff]at hj;exact hj.1
  have ht:(cW J.ar (b7 J.ar 0)).take (i+1)=(cW J.ar (b7 J.ar 0)).take i++[(j,k)]:=by erw[List.take_add_one,hj];rfl
  injection (em.mp hjm)with ar h1 h2 rfl;injection (W.fx _ _ h1 h2)with w1 w2 w3;obtain⟨m,hm⟩:∃m:Nat,ar.ins.three=(m:Int):=⟨ar.ins.three.toNat,(Int.toNat_of_nonneg w2).symm⟩;show TA _ _ (.int ((j:Nat):Int)) _ _ _
  fail "w";refine' aU ?_;refine i5 (v:=.int ar.ins.three) (by fail "c") (by erw[jz h1,if_pos h2]) ?_;erw[hm];refine dy (by fail "b") ?_ (by erw[d4,List.length_map];exact Iv hl2 hcl hilt hF);erw[pJ];fail "f";refine⟨by fail "d",pv l m,oG hl1,by have:=ta l m;exact Iu this hl2,?_,rfl⟩;delta x;erw[t9,hl3,ht,List.map_append,List.mem_append,hm];simp only[List.map_cons,List.map_nil,List.mem_singleton,hm,Int.toNat_natCast];exact or_assoc
 delta σ';intro z442;injection z442 with l hl1 hl2 hl3 rfl;rw[List.length_map,List.length_map]at hl2 hl3;rw[List.take_length]at hl3;fail "w";refine' aa (by fail "a") C.g_sorted ?_;refine dH (us:=(d4 l).map (fun U=>U.1)) (l0 (by fail "c") (by erw[d4,List.length_map];exact Bz hl2 hcl hF)) (by erw[fP,List.length_map];exact Bz hl2 hcl hF) ?_;delta us' a' hp;intro _;refine⟨_,_,(ay.lst (by fail "l")).trans (.drop (σ':=σ) (by fail "r")),?_⟩;rw[fP]at hp
 have e:us'.map V.int=(us'.map Int.toNat).map fun j=>V.int (j:Nat):=by
  erw[List.map_map];refine List.map_congr_left fun x hx=>?_
  obtain⟨j,_,rfl⟩:=List.mem_map.mp (hp.mem_iff.mp hx);simp
 have hp2:(us'.map Int.toNat).Perm l:=by
  have:=hp.map Int.toNat
  rw[List.map_map]at this;have e0:(Int.toNat∘fun j:Nat=>(j:Int))=id:=by funext x;simp
  rwa[e0,List.map_id]at this
 erw[e];refine q _ (by erw[hp2.length_eq];exact It hl2 hcl hF) ?_;delta j;erw[hp2.mem_iff,hl3];unfold cu;erw[List.mem_cons,List.mem_append];exact or_assoc
end
def jO (n:Nat) (s:List Nat):List Bool:=(List.range n).map fun i=>decide (i∈s)
theorem lx (n:Nat) (s:List Nat):(jO n s).length=n:=by simp[jO]
theorem wg {n j:Nat} {s:List Nat} (h:j<n):(jO n s).set j true=jO n (s++[j]):=by
 delta n j s h at ⊢;apply List.ext_getElem?;delta i;unfold jO;erw[List.getElem?_set];by_cases e:j=i
 ·subst e;simp[h]
 ·erw[if_neg e,List.getElem?_map,List.getElem?_map];rcases Nat.lt_or_ge i n with hi|hi
  ·erw[List.getElem?_range hi];simp[Ne.symm e]
  ·simp[hi]
theorem wh {n i:Nat} {s:List Nat}:(jO n s)[i]?=some true↔i<n∧i∈s:=by
 unfold jO;erw[List.getElem?_map];rcases Nat.lt_or_ge i n with hi|hi
 ·erw[List.getElem?_range hi];simp[hi]
 ·erw[List.getElem?_eq_none (by simpa using hi)];simp;omega
theorem dp.lt {rs:List aN} {ss:List Nat} {i:Nat} (r:dp rs ss i):i<rs.length:=by
 delta rs ss i r at ⊢;cases r with
 | start _ h=>exact h
 | succ _ _ h=>exact rH h
 | call _ _ h=>exact qh h
section
variable (C:kq) {n:Nat} {σ:aj} {Q:V→aj→Prop}
include C
theorem oo {J:JO} (W:wD J) (q:∀J',tf J J'→Q J'.v σ):TF (n+9) 204 [J.v] σ Q:=by
 delta C n σ Q J W q at ⊢;have hK:=C.hK
 have hz:=W.wf.small
 refine cU (aW (by erw[hK];rfl) rfl rfl (by erw[hK];nofun) (by nofun) (by nofun) (kO fun U=>rfl) ?_);delta c;fail "j";fail "w";refine' b8 ?_;refine⟨by decide,?_⟩;delta g;fail "w";refine' aa (by fail "a") C.g_len ?_;fail "i";fail "w";refine' bt .lst (by erw[cE];omega) ?_;erw[cE];refine x6 (vs:=[.bool false]) (by fail "c") (by exact hU) (by simp;omega) (by exact Is hz) ?_;delta k
 have e0:(List.replicate ((J.ar.length:Nat):Int).toNat [V.bool false]).flatten=(jO J.ar.length []).map V.bool:=by
  erw[Int.toNat_natCast];unfold jO;induction J.ar.length with
  | zero=>rfl
  | succ m ih=>
   erw[List.replicate_succ',List.flatten_append,ih,List.range_succ];simp
 erw[e0];fail "w";refine mE ?_;refine' aa (by fail "a") C.g_reach_rows ?_;fail "i";fail "w";refine' aa (by fail "a") C.g_start_rows ?_;refine aJ (TF.up (m:=n+3) (r7 C W.wf ?_) (by exact Ir));delta ss hs1 hs2;fail "w";refine aJ (zR C (by erw[jq];omega) hs1 ?_);delta l hl1 hl2;have hl3:∀j,j∈l↔dp J.rows (cu J) j:=fun j=>(hl2 j).trans ⟨dp.congr fun x hx=>(hs2 x).mp hx,dp.congr fun x hx=>(hs2 x).mpr hx⟩
 refine⟨trivial,_,fun i σ'=>σ'=(k,.lst ((jO J.ar.length (l.take i)).map V.bool))::(g,.lst [.bool false])::σ,.lst,by dsimp only;erw[List.take_zero],?_,?_⟩
 ·delta i v σ' hv;intro z447;first|subst z447|cases z447
  rw[List.getElem?_map,Option.map_eq_some_iff]at hv;injection hv with j hj rfl;have hlt:j<J.ar.length:=by have:=((hl3 j).mp (List.mem_of_getElem? hj)).lt;rwa[jq]at this
  have ht:l.take (i+1)=l.take i++[j]:=by erw[List.take_add_one,hj];rfl
  fail "w";refine' aU ?_;refine cb (by fail "b") (by exact hU) (by erw[List.length_map,lx];exact vW hlt) (by exact rt hlt hz) ?_;fail "f";refine⟨by fail "d",?_⟩;dsimp only;erw[ht,←wg hlt,List.map_set];rfl
 ·delta σ';intro z450;first|subst z450|cases z450
  erw[List.length_map,List.take_length];refine' b5 (aC.frz (gd.lst (a:=k) (by fail "l")) aR.refl (by fail "q")) ?_;refine' aa (by fail "a") C.g_remap ?_;fail "i";fail "w";refine aJ (TF.up (m:=n+6) (zP C W.wf W.words W.mp (lx _ _) ?_) (by exact Iq));refine⟨_,σ,ay.drop (by fail "r"),q _ ⟨_,lx _ _,?_,rfl⟩⟩;delta i;erw[wh,hl3];exact⟨fun h=>h.2,fun h=>⟨by have:=h.lt;rwa[jq]at this,h⟩⟩
omit C in
theorem tf.wfs {J J':JO} (W:wD J) (h:tf J J'):wD J':=by
 delta J J' W h at ⊢;injection h with ks h1 _ rfl;exact W.remap h1
omit C in
theorem tf.len {J J':JO} (h:tf J J'):J'.ar.length≤J.ar.length:=by
 obtain⟨ks,h1,_,rfl⟩:=h;erw[pM h1];exact si
theorem yh {J:JO} (W:wD J) (q:∀J',iw J J'→Q J'.v σ):TF (n+10) 295 [J.v] σ Q:=by
 delta C n σ Q J W q at ⊢;have hK:=C.hK
 refine aW (by erw[hK];rfl) rfl rfl (by erw[hK];nofun) (by nofun) (by nofun) (kO fun U=>rfl) ?_;delta c;fail "j";fail "w";refine iF (fun m η' σ'=>∃Jc,wD Jc∧(∀J',iw Jc J'→Q J'.v σ)∧m=Jc.ar.length∧η'=([("made",.val Jc.v),("smaller",.un),("without_dead",.glb),("len",.glb)]:aI)∧σ'=σ) J.ar.length ⟨J,W,q,rfl,rfl,rfl⟩ ?_;delta m η' σ';intro z455;injection z455 with Jc Wc qc rfl rfl rfl;have hz:=Wc.wf.small
 refine' iH ?_;refine' aa (by fail "a") C.g_without_dead ?_;refine aJ (oo C Wc ?_);delta J' hd;have hl:=hd.len
 fail "w";refine' aa (by fail "a") C.g_len ?_;fail "i";fail "w";refine' bt .lst (by erw[cE];omega) ?_;refine' aa (by fail "a") C.g_len ?_;fail "i";fail "w";refine' bt .lst (by erw[cE];omega) ?_;erw[cE,cE];refine xO (fun he=>?_) (fun he=>?_)
 ·rw[beq_iff_eq]at he;fail "w";exact qc _ (.stop hd (Int.ofNat.inj he))
 ·rw[beq_eq_false_iff_ne]at he;fail "f";fail "w";refine bN (η':=([("made",.val J'.v),("smaller",.un),("without_dead",.glb),("len",.glb)]:aI)) (aC.weak (by fail "d")) ?_;exact⟨J'.ar.length,by exact Ip he hl,J',hd.wfs Wc,fun J'' h=>qc _ (.step hd h),rfl,rfl,rfl⟩
end
inductive RF where
 | data|addr
 | call (m w:Nat)
 deriving Nonempty
structure bR where
 ins:aN
 fx:Option RF
 mp:List Int
 deriving Nonempty
def bm:List bR→Nat→List (Nat×RF)
 | [],_=>[]
 | a::r,i=>(match a.fx with|some b=>[(i,b)]|none=>[])++bm r (i+1)
theorem ls {i:Nat}:bm [] i=[]:=rfl
theorem d6 {a:bR} {r:List bR} {i:Nat}:bm (a::r) i=(match a.fx with|some b=>[(i,b)]|none=>[])++bm r (i+1):=rfl
def bx:List bR→Nat→List (Nat×List Int)
 | [],_=>[]
 | a::r,i=>(if a.ins.isBL then[(i+1,a.mp)]else[])++bx r (i+1)
theorem lq {i:Nat}:bx [] i=[]:=rfl
theorem cF {a:bR} {r:List bR} {i:Nat}:bx (a::r) i=(if a.ins.isBL then[(i+1,a.mp)]else[])++bx r (i+1):=rfl
structure RO where
 name:Str
 key:Int
 imps:List (Str×Int)
 size:Int
 words:List (Int×Int)
 ar:List bR
 ents:List Nat
 cmds:List (Str×Nat)
 body:Nat
 deriving Nonempty
def fz:Nat×RF→V
 | (i,.data)=>.tup [.int (i:Nat),.str "data",.int 0,.int 0]
 | (i,.addr)=>.tup [.int (i:Nat),.str "addr",.int 0,.int 0]
 | (i,.call m w)=>.tup [.int (i:Nat),.str "call",.int (m:Nat),.int (w:Nat)]
def lC (p:Str×Int):V:=.tup [.str p.1,.int p.2]
def oi (j:Nat):V:=.tup [.str "code",.int (j:Nat)]
def RO.rows (R:RO):List aN:=R.ar.map bR.ins
def RO.kvs (R:RO):List (Str×V):=b2 (.str R.name) (.int R.key) (.lst (R.imps.map lC)) (eC R.rows) (.int R.size) (.lst (R.words.map f7)) (.lst []) (.lst ((bm R.ar 0).map fz)) (.lst (R.ents.map oi)) (.lst []) (.dI ((bx R.ar 0).map co)) (.dS (R.cmds.map cC)) (.int (R.body:Nat))
def RO.v (R:RO):V:=.obj 83 R.kvs
theorem RO.g_name (R:RO):aB R.kvs "name" = some (.str R.name):=by kernel_rfl
theorem RO.g_key (R:RO):aB R.kvs "key" = some (.int R.key):=by kernel_rfl
theorem RO.g_imports (R:RO):aB R.kvs "imports" = some (.lst (R.imps.map lC)):=by kernel_rfl
theorem RO.g_rows (R:RO):aB R.kvs "rows" = some (eC R.rows):=by kernel_rfl
theorem RO.g_data_size (R:RO):aB R.kvs "data_size" = some (.int R.size):=by kernel_rfl
theorem RO.g_words (R:RO):aB R.kvs "words" = some (.lst (R.words.map f7)):=by kernel_rfl
theorem RO.g_data_fixups (R:RO):aB R.kvs "data_fixups" = some (.lst []):=by kernel_rfl
theorem RO.g_fixups (R:RO):aB R.kvs "fixups" = some (.lst ((bm R.ar 0).map fz)):=by kernel_rfl
theorem RO.g_entries (R:RO):aB R.kvs "entries" = some (.lst (R.ents.map oi)):=by kernel_rfl
theorem RO.g_pointers (R:RO):aB R.kvs "pointers" = some (.lst []):=by kernel_rfl
theorem RO.g_maps (R:RO):aB R.kvs "maps" = some (.dI ((bx R.ar 0).map co)):=by kernel_rfl
theorem RO.g_commands (R:RO):aB R.kvs "commands" = some (.dS (R.cmds.map cC)):=by kernel_rfl
theorem RO.g_body (R:RO):aB R.kvs "body" = some (.int (R.body:Nat)):=by kernel_rfl
section
variable (C:kq) {n:Nat} {σ:aj} {Q:V→aj→Prop}
include C
theorem g8 {objs:List (Str×V)} {x:Str} {v iv:V} (h:aB objs x=some v) (q:Q v σ):TF (n+1) 225 [.dS objs,.str x,iv] σ Q:=by
 have hK:=C.hK
 refine aW (by erw[hK];rfl) rfl rfl (by erw[hK];nofun) (by nofun) (by nofun) (md fun U U U=>rfl) fun c=>?_
 fail "j";fail "w";refine' uw (by fail "c") ?_;erw[h];refine ak rfl ?_;fail "f";fail "w";refine bo (by fail "c") h ?_;exact q
theorem lI {objs:List (Str×V)} {x y:Str} {R:RO} {j:Nat} (h:aB objs x=some R.v) (hj:aB (R.cmds.map cC) y=some (.int (j:Nat))) (q:Q (.int (j:Nat)) σ):TF (n+2) 232 [.dS objs,.str x,.str y] σ Q:=by
 delta C n σ Q objs x y R j h hj q at ⊢;have hK:=C.hK
 refine aW (by erw[hK];rfl) rfl rfl (by erw[hK];nofun) (by nofun) (by nofun) (md fun U U U=>rfl) fun c=>?_
 fail "j";fail "w";refine' aa (by fail "a") C.g_found_object ?_;refine' aJ (g8 C h ?_);fail "o";fail "w";refine' uw .dS ?_;erw[hj];refine ak rfl ?_;fail "f";fail "w";fail "o";fail "w";refine bo .dS hj ?_;exact q
theorem vm {r:aN} {k:Int} (q:Q (r.setThree (r.three+k)).v σ):TF (n+1) 267 [r.v,.int k] σ Q:=by
 have hK:=C.hK
 refine aW (by erw[hK];rfl) rfl rfl (by erw[hK];nofun) (by nofun) (by nofun) (pn fun U U=>rfl) fun c=>?_
 fail "j";fail "w";refine⟨by fail "g",?_⟩;have e:(r.setThree (r.three+k)).v=.tup [.str r.op,r.one,.int r.two,.int (r.three+k)]:=by cases r<;>rfl
 rw[e] at q;exact q
end
def kt (u0 u1 u2 u3 u4:V):List (Str×V):=[("objects",u0),("code",u1),("data",u2),("rows",u3),("bytes",u4)]
theorem qP {u0 u1 u2 u3 u4:V}:aB (kt u0 u1 u2 u3 u4) "objects" = some u0:=by kernel_rfl
theorem jx {u0 u1 u2 u3 u4:V}:aB (kt u0 u1 u2 u3 u4) "code" = some u1:=by kernel_rfl
theorem q8 {u0 u1 u2 u3 u4:V}:aB (kt u0 u1 u2 u3 u4) "data" = some u2:=by kernel_rfl
theorem q0 {u0 u1 u2 u3 u4:V}:aB (kt u0 u1 u2 u3 u4) "rows" = some u3:=by kernel_rfl
theorem ww {u0 u1 u2 u3 u4 v:V}:bj (kt u0 u1 u2 u3 u4) "rows" v=kt u0 u1 u2 v u4:=by kernel_rfl
theorem nT {u0 u1 u2 u3 u4:V}:aB (kt u0 u1 u2 u3 u4) "bytes" = some u4:=by kernel_rfl
theorem tN {u0 u1 u2 u3 u4 v:V}:bj (kt u0 u1 u2 u3 u4) "bytes" v=kt u0 u1 u2 u3 v:=by kernel_rfl
section
variable (C:kq) {n:Nat} {σ:aj}
theorem yT {a:Addr} {w u0 u1 u2 u3 u4:V}:td a w (kt u0 (.loc a) u2 u3 u4) (kt u0 w u2 u3 u4):=.cons .refl (.cons .loc (.cons .refl (.cons .refl (.cons .refl (.refl)))))
theorem yS {a:Addr} {w u0 u1 u2 u3 u4:V}:td a w (kt u0 u1 (.loc a) u3 u4) (kt u0 u1 w u3 u4):=.cons .refl (.cons .refl (.cons .loc (.cons .refl (.cons .refl (.refl)))))
include C
theorem lS:cq S.K 256 "objects":=by erw[C.hK];exact⟨by nofun,by nofun,by nofun⟩
theorem iO:cq S.K 256 "code":=by erw[C.hK];exact⟨by nofun,by nofun,by nofun⟩
theorem xc {a dx:Addr} {u0 u1 u2 u3 u4:V} {Q:V→aj→Prop} (h:At σ a (.inst 256 dx)) (h':At σ dx (.dS (kt u0 u1 u2 u3 u4))) (q:Q u1 σ):T1 n (fun x=>getAttr x "code" true) (.loc a) σ Q:=f5 h h' jx (iO C) q
theorem n6:cq S.K 256 "data":=by erw[C.hK];exact⟨by nofun,by nofun,by nofun⟩
theorem xb {a dx:Addr} {u0 u1 u2 u3 u4:V} {Q:V→aj→Prop} (h:At σ a (.inst 256 dx)) (h':At σ dx (.dS (kt u0 u1 u2 u3 u4))) (q:Q u2 σ):T1 n (fun x=>getAttr x "data" true) (.loc a) σ Q:=f5 h h' q8 (n6 C) q
theorem kD:cq S.K 256 "rows":=by erw[C.hK];exact⟨by nofun,by nofun,by nofun⟩
theorem wU {a dx:Addr} {u0 u1 u2 u3 u4 u v:V} {Q:aj→Prop} {σ':aj} (h:At σ a (.inst 256 dx)) (h':fK σ dx (.dS (kt u0 u1 u2 u3 u4)) (.dS (kt u0 u1 u2 v u4)) σ') (q:Q σ'):T3 n (fun x U z=>setAttr x "rows" z) (.loc a) u v σ Q:=
 bd h (by erw[ww];exact h') (kD C) q (by show 5≤1000;omega)
theorem xa {a dx:Addr} {u0 u1 u2 u3 u4:V} {Q:V→aj→Prop} (h:At σ a (.inst 256 dx)) (h':At σ dx (.dS (kt u0 u1 u2 u3 u4))) (q:Q u3 σ):T1 n (fun x=>getAttr x "rows" true) (.loc a) σ Q:=f5 h h' q0 (kD C) q
theorem jt:cq S.K 256 "bytes":=by erw[C.hK];exact⟨by nofun,by nofun,by nofun⟩
theorem vH {a dx:Addr} {u0 u1 u2 u3 u4 u v:V} {Q:aj→Prop} {σ':aj} (h:At σ a (.inst 256 dx)) (h':fK σ dx (.dS (kt u0 u1 u2 u3 u4)) (.dS (kt u0 u1 u2 u3 v)) σ') (q:Q σ'):T3 n (fun x U z=>setAttr x "bytes" z) (.loc a) u v σ Q:=
 bd h (by erw[tN];exact h') (jt C) q (by show 5≤1000;omega)
theorem vJ {a dx:Addr} {u0 u1 u2 u3 u4:V} {Q:V→aj→Prop} (h:At σ a (.inst 256 dx)) (h':At σ dx (.dS (kt u0 u1 u2 u3 u4))) (q:Q u4 σ):T1 n (fun x=>getAttr x "bytes" true) (.loc a) σ Q:=f5 h h' nT (jt C) q
end
def rn (z:Int):Int:=(z+16-1)/16*16
def bK:List (Str×RO)→Nat→Int→List (Str×Nat×Int)
 | [],_,_=>[]
 | (x,R)::r,c,d=>(x,c,d)::bK r (c+R.ar.length) (d+rn R.size)
theorem oz {c:Nat} {d:Int}:bK [] c d=[]:=rfl
theorem di {x:Str} {R:RO} {r:List (Str×RO)} {c:Nat} {d:Int}:bK ((x,R)::r) c d=(x,c,d)::bK r (c+R.ar.length) (d+rn R.size):=rfl
def cD (ms:List (Str×RO)):Nat:=(ms.map fun p=>p.2.ar.length).sum
def cI:List (Str×RO)→Int
 | []=>0
 | (_,R)::r=>rn R.size+cI r
theorem gr:cI []=0:=rfl
theorem dC {y:Str} {R:RO} {r:List (Str×RO)}:cI ((y,R)::r)=rn R.size+cI r:=rfl
theorem jb:∀(a b:List (Str×RO)),cI (a++b)=cI a+cI b
 | [],b=>by simp[gr,dC]
 | (x,R)::r,b=>by erw[List.cons_append,dC,dC,jb r b];exact Io
theorem jP:∀(a b:List (Str×RO)) (c:Nat) (d:Int),bK (a++b) c d=bK a c d++bK b (c+cD a) (d+cI a)
 | [],b,c,d=>by simp[oz,di,cD,gr,dC]
 | (x,R)::r,b,c,d=>by
  erw[List.cons_append,di,di,jP r b,List.cons_append];simp only[cD,gr,dC,List.map_cons,List.sum_cons];erw[Nat.add_assoc,Int.add_assoc]
theorem gv:∀(a:List (Str×RO)) (c:Nat) (d:Int),(bK a c d).map (fun U=>U.1)=a.map (fun U=>U.1)
 | [],_,_=>rfl
 | (x,R)::r,c,d=>by erw[di,List.map_cons,gv r];rfl
def m8 (p:Str×Nat×Int):Str×V:=(p.1,.int (p.2.1:Nat))
def kW (p:Str×Nat×Int):Str×V:=(p.1,.int p.2.2)
def yl (objs:List (Str×V)) (ms:List (Str×RO)):V:=.obj 256 (kt (.dS objs) (.dS ((bK ms 0 0).map m8)) (.dS ((bK ms 0 0).map kW)) (.int (cD ms:Nat)) (.int (cI ms)))
theorem mJ {n:Nat} {η:aI} {σ:aj} {Q:V→aj→Prop} {x:Str} {pos:Pos} {i:Int} {t:Tok} (h:gx η x .glb) (hg:S.glob x (.int i t)) (q:Q (.int i) σ):TE n (.Name x pos) η σ Q:=fun A B P env s R hA I k=>I.global h hg (k _ σ _ s B q (bh.refl _) I (.int _ _))
section
variable (C:kq) {n:Nat} {σ:aj} {Q:V→aj→Prop}
include C
theorem rj {objs:List (Str×V)} {ms:List (Str×RO)} {x dx:Addr} (ho:∀p∈ms,aB objs p.1=some p.2.v) (hn:(ms.map (fun U=>U.1)).Nodup) (hz:ms.length≤1000) (hr:∀p∈ms,p.2.ar.length≤1000) (hs:∀p∈ms,0≤p.2.size∧p.2.size≤1000)
 (q:∀cd da,Q .none ((da,.dS ((bK ms 0 0).map kW))::(cd,.dS ((bK ms 0 0).map m8))::(x,.inst 256 dx)::(dx,.dS (kt (.dS objs) (.loc cd) (.loc da) (.int (cD ms:Nat)) (.int (cI ms))))::σ)):
 TF (n+1) 246 [.loc x,.dS objs,.lst (ms.map fun p=>.str p.1)] ((x,.inst 256 dx)::(dx,.dS [])::σ) Q:=by
 delta C n σ Q objs ms x dx ho hn hz hr hs q at ⊢
 have hK:=C.hK
 injection C.vGRAIN with tG hG
 refine aW (by erw[hK];rfl) rfl rfl (by erw[hK];nofun) (by nofun) (by nofun) (md fun U U U=>rfl) ?_
 delta c
 fail "j"
 fail "w"
 refine' bS ?_
 refine' bd (kvs:=([]:List (Str×V))) (by fail "e") (by erw[show bj ([]:List (Str×V)) "objects" (.dS objs)=([("objects",.dS objs)]:List (Str×V))by nofun];fail "b") (lS C) ?_ (by simp)
 refine gC ?_
 delta cd
 fail "w"
 refine' bS ?_
 refine' bd (kvs:=([("objects",.dS objs)]:List (Str×V))) (by fail "e") (by erw[show bj ([("objects",.dS objs)]:List (Str×V)) "code" (.loc cd)=([("objects",.dS objs),("code",.loc cd)]:List (Str×V))by nofun];fail "b") (iO C) ?_ (by simp)
 refine gC ?_
 delta da
 fail "w"
 refine' bS ?_
 refine' bd (kvs:=([("objects",.dS objs),("code",.loc cd)]:List (Str×V))) (by fail "e") (by erw[show bj ([("objects",.dS objs),("code",.loc cd)]:List (Str×V)) "data" (.loc da)=([("objects",.dS objs),("code",.loc cd),("data",.loc da)]:List (Str×V))by nofun];fail "b") (n6 C) ?_ (by simp)
 refine' bS ?_
 refine' bd (kvs:=([("objects",.dS objs),("code",.loc cd),("data",.loc da)]:List (Str×V))) (by fail "e") (by erw[show bj ([("objects",.dS objs),("code",.loc cd),("data",.loc da)]:List (Str×V)) "rows" (.int 0)=([("objects",.dS objs),("code",.loc cd),("data",.loc da),("rows",.int 0)]:List (Str×V))by nofun];fail "b") (kD C) ?_ (by simp)
 refine' bS ?_
 refine' bd (kvs:=([("objects",.dS objs),("code",.loc cd),("data",.loc da),("rows",.int 0)]:List (Str×V))) (by fail "e") (by erw[show bj ([("objects",.dS objs),("code",.loc cd),("data",.loc da),("rows",.int 0)]:List (Str×V)) "bytes" (.int 0)=kt (.dS objs) (.loc cd) (.loc da) (.int 0) (.int 0)by nofun];fail "b") (jt C) ?_ (by simp)
 refine' aO (fun i σ'=>σ'=(da,.dS ((bK (ms.take i) 0 0).map kW))::(cd,.dS ((bK (ms.take i) 0 0).map m8))::(x,.inst 256 dx)::(dx,.dS (kt (.dS objs) (.loc cd) (.loc da) (.int (cD (ms.take i):Nat)) (.int (cI (ms.take i)))))::σ) ?_
 refine⟨trivial,_,.lst,by erw[List.take_zero];rfl,?_,?_⟩
 ·delta i v σ' hv
  intro z463
  first|subst z463|cases z463
  rw[List.getElem?_map,Option.map_eq_some_iff]at hv
  first|((first|(injection (tU hv)with nm z464;injection z464 with R z465)|(injection hv with z464 z465;injection z464 with nm R));injection z465 with hj z466;(first|subst z466|cases z466))|(obtain⟨⟨nm,R⟩,hj,rfl⟩:=hv)
  have hjm:=List.mem_of_getElem? hj
  have hget:=ho _ hjm
  have hrl:=hr _ hjm
  have hilt:i<ms.length:=by rw[List.getElem?_eq_some_iff]at hj;exact hj.1
  have ht:ms.take (i+1)=ms.take i++[(nm,R)]:=by erw[List.take_add_one,hj];rfl
  have hkey:nm∉(ms.take i).map (fun U=>U.1):=by
   have e4:ms.map (fun U=>U.1)=(ms.take i).map (fun U=>U.1)++(ms.drop i).map (fun U=>U.1):=by erw[←List.map_append,List.take_append_drop]
   rw[e4,List.nodup_append]at hn
   intro h
   refine hn.2.2 nm h nm ?_ rfl
   erw[List.drop_eq_getElem_cons hilt]
   rw[List.getElem?_eq_some_iff]at hj
   simp[hj.2]
  have hk1:nm∉((bK (ms.take i) 0 0).map m8).map (fun U=>U.1):=by erw[List.map_map];show nm∉(bK _ _ _).map (fun U=>U.1);erw[gv];exact hkey
  have hk2:nm∉((bK (ms.take i) 0 0).map kW).map (fun U=>U.1):=by erw[List.map_map];show nm∉(bK _ _ _).map (fun U=>U.1);erw[gv];exact hkey
  have hlen:(bK (ms.take i) 0 0).length≤1000:=by
   have:=congrArg List.length (gv (ms.take i) 0 0)
   rw[List.length_map,List.length_map]at this
   have:=List.length_take_le' i ms
   exact Im (by assumption) this hz
  dsimp only at hget hrl
  show TA _ _ (.str nm) _ _ _
  fail "w"
  refine' dq ?_
  fail "u"
  fail "w"
  refine aU ?_
  refine' dq ?_
  fail "u"
  fail "w"
  refine f0 (by fail "b") ?_ (by erw[List.length_map];omega)
  erw[ch hk1]
  fail "w"
  refine' dq ?_
  fail "u"
  fail "w"
  refine aU ?_
  refine' dq ?_
  fail "u"
  fail "w"
  refine f0 (by fail "b") ?_ (by erw[List.length_map];omega)
  erw[ch hk2]
  fail "w"
  refine' mj ?_
  fail "u"
  refine' aa (by fail "a") C.g_len ?_
  refine' dq ?_
  refine bo (by fail "c") hget ?_
  refine' eB (RO.g_rows _) (gi C) ?_
  refine bt .lst (by erw[List.length_map,RO.rows,List.length_map];omega) ?_
  refine jk ?_
  fail "A"
  fail "w"
  refine' mj ?_
  fail "u"
  fail "w"
  refine' dq ?_
  refine bo (by fail "c") hget ?_
  refine eB (RO.g_data_size _) (eF C) ?_
  refine' mJ (by fail "a") hG ?_
  refine mJ (by fail "a") hG ?_
  refine tv ?_ (by omega) (by omega)
  refine mJ (by fail "a") hG ?_
  refine gA ?_ ?_
  ·refine jk ?_
   fail "A"
   fail "f"
   refine⟨by fail "d",?_⟩
   erw[ht,jP,List.map_append,List.map_append]
   simp[oz,di,kW,m8,cD,gr,dC,rn,RO.rows,jb]
  ·exact IntMulOk.of_right (by decide +kernel)
 ·delta σ'
  intro z467
  first|subst z467|cases z467
  erw[List.length_map,List.take_length]
  fail "f"
  exact q _ _
end
section
variable {n:Nat} {η:aI} {σ:aj} {Q:V→aj→Prop}
theorem yB {name:Str} {C f:Addr} {kvs:List (Str×V)} {e:Expr} {rest:List Expr} (hC:qg S.K C=true) (hf:findIn S.K (.ref C) name=some (some (.ref f))) (ht:typeIn S.K (.ref f)=some (.type "function"))
 (hk:aA S.K (.ref f)=true) (hn:aB kvs name=none)
 (ha:rq n (e::rest) η σ fun us σ₁=>TL n (fun xs=>PySem.call (.ref f) xs) (.obj C kvs::us) σ₁ Q)
 (hst:autoParam (∀env,starEach (e::rest) env=(false,eval e env)::starEach rest env) tI) (hany:autoParam (∀env pos,(backTo pos (starEach rest env)).any (fun U=>U.1)=false) tI):TM n name (.obj C kvs) (e::rest) η σ Q:=fun A B P env s x pos R pl hA I hx k=>by
 obtain⟨P',I0⟩:=I.inv0
 have hx':=hx
 cases hx with
 | obj eo e' D rs=>
 simp only[qg,Bool.and_eq_true,beq_iff_eq] at hC
 refine method_fn (od:=some _) I0.kin ⟨I0.base _ _ eo,rfl,rfl,I0.base _ _ e'⟩ hC.1.1.1.1 hC.1.1.1.2 hf ht ?_ ?_
 ·show(PySem.W.lookIn name _).map _=some false
  erw[D.lookIn_none (rs.look_none hn)];rfl
 refine eU I0.kin hk (ha A B P env s pos _ hA I fun us σ₁ ys s₁ B₁ q H₁ I₁ hy=>?_) (hst env) (hany env pos)
 obtain⟨P1,I1⟩:=I₁.inv0
 exact⟨I1.kin,q.lift hA I₁ (.cons (hx'.mono H₁) hy) fun v σ' z s' B' q H I' hz=>k v σ' z s' B' q (H₁.trans H) I' hz⟩
end
section
variable (C:kq) {n:Nat} {σ:aj} {Q:V→aj→Prop}
include C
theorem zS {objs codes datas:List (Str×V)} {u v:V} {R R2:RO} {m w j c:Nat} {x:Str} {key:Int} (hm:R.imps[m]?=some (x,key)) (h2:aB objs x=some R2.v) (hw:R2.ents[w]?=some j) (hc:aB codes x=some (.int (c:Nat))) (hm2:m<1000) (hw2:w<1000)
 (q:Q (.tup [.str "code",.int ((c:Nat)+(j:Nat))]) σ):TF (n+1) 253 [.obj 256 (kt (.dS objs) (.dS codes) (.dS datas) u v),R.v,.int (m+1:Nat),.int (w+1:Nat)] σ Q:=by
 delta C n σ Q objs codes datas u v R R2 m w j c x key hm h2 hw hc hm2 hw2 q at ⊢;have hK:=C.hK
 refine aW (by erw[hK];rfl) rfl rfl (by erw[hK];nofun) (by nofun) (by nofun) (xJ fun U U U U=>rfl) fun c=>?_
 fail "j";fail "w";fail "o";fail "w";refine al (v:=lC (x,key)) .lst (by show _[(((m+1:Nat):Int)-1).toNat]?=_;erw[show(((m+1:Nat):Int)-1).toNat=m by exact zb,List.getElem?_map,hm];rfl) (by exact za) (by exact By hm2) ?_;unfold lC;fail "w";refine' dq ?_;fail "v";fail "w";refine bo .dS h2 ?_;refine' eB (RO.g_entries _) (fT C) ?_;refine al (v:=oi j) .lst (by show _[(((w+1:Nat):Int)-1).toNat]?=_;erw[show(((w+1:Nat):Int)-1).toNat=w by exact zb,List.getElem?_map,hw];rfl) (by exact za) (by exact By hw2) ?_;unfold oi;fail "w";refine ak (by nofun) ?_;fail "f";fail "w";fail "v";fail "w";refine' bo .dS hc ?_;refine⟨by fail "g",?_⟩;exact q
end
structure Ad where
 x:Addr
 dx:Addr
 im:Addr
 ro:Addr
 wo:Addr
 df:Addr
 fx:Addr
 en:Addr
 po:Addr
 mp:Addr
 cm:Addr
 deriving Nonempty
def fe (d:Ad) (name:Str) (key size:Int) (rows fixs words:List V) (maps:List (Int×V)) (cmds:List (Str×V)) (body:Int) (σ:aj):aj:=
 (d.cm,.dS cmds)::(d.mp,.dI maps)::(d.po,.lst [])::(d.en,.lst [])::(d.fx,.lst fixs)::(d.df,.lst [])::(d.wo,.lst words)::(d.ro,.lst rows)::(d.im,.lst [])::(d.x,.inst 83 d.dx)::
  (d.dx,.dS (b2 (.str name) (.int key) (.loc d.im) (.loc d.ro) (.int size) (.loc d.wo) (.loc d.df) (.loc d.fx) (.loc d.en) (.loc d.po) (.loc d.mp) (.loc d.cm) (.int body)))::σ
def er (d:Ad) (J:JO) (σ:aj):aj:=fe d J.name J.key J.size (J.rows.map aN.v) ((b7 J.ar 0).map gR) (J.words.map f7) ((bi J.ar 0).map co) (J.cmds.map cC) (J.body:Nat) σ
def JO.snoc (J:JO) (a:aT):JO:={ J with ar:=J.ar++[a] }
theorem fj:∀(a b:List aT) (i:Nat),b7 (a++b) i=b7 a i++b7 b (i+a.length)
 | [],b,i=>rfl
 | x::r,b,i=>by erw[List.cons_append,bU,bU,fj r b,List.append_assoc,List.length_cons,show i+1+r.length=i+(r.length+1)by exact vV]
theorem ej:∀(a b:List aT) (i:Nat),bi (a++b) i=bi a i++bi b (i+a.length)
 | [],b,i=>rfl
 | x::r,b,i=>by erw[List.cons_append,bC,bC,ej r b,List.append_assoc,List.length_cons,show i+1+r.length=i+(r.length+1)by exact vV]
theorem xf {d:Ad} {J:JO} {σ:aj} {t k:Int} {l:List Int}:fe d J.name J.key J.size (J.rows.map aN.v++[(aN.bl t k).v]) ((b7 J.ar 0).map gR) (J.words.map f7) ((bi J.ar 0).map co++[(((J.ar.length+1:Nat):Int),.lst (l.map V.int))]) (J.cmds.map cC) (J.body:Nat) σ=er d (J.snoc ⟨.bl t k,none,l⟩) σ:=by
 unfold er JO.snoc JO.rows;erw[fj,ej];simp[gS,bU,j0,bC,aN.isBL,co]
def f6:List aT:=[⟨.reg .str 15 14 (-4),none,[]⟩,⟨.reg .str 11 14 (-8),none,[]⟩,⟨.reg .mov 11 0 14,none,[]⟩,⟨.reg .subi 14 14 8,none,[]⟩]
def lb:List aT:=[⟨.reg .mov 14 0 11,none,[]⟩,⟨.reg .ldr 15 14 (-4),none,[]⟩,⟨.reg .ldr 11 14 (-8),none,[]⟩,⟨.br 15 0,none,[]⟩]
def ma (J:JO) (b:Nat):JO:=J.snoc ⟨.bl ((b:Nat)-(J.ar.length:Nat)-1) 0,none,[]⟩
def JO.withBody (J:JO) (bs:List Nat):JO:=
 let J2:=bs.foldl ma { J with body:=J.ar.length,ar:=J.ar++f6 }
 { J2 with ar:=J2.ar++lb }
theorem lD:∀(l:List Nat) (J:JO),(l.foldl ma J).ar.length=J.ar.length+l.length
 | [],J=>rfl
 | b::r,J=>by erw[List.foldl_cons,lD r];simp[ma,JO.snoc];exact vV
section
variable (C:kq) {n:Nat} {σ:aj} {Q:V→aj→Prop}
include C
theorem sU {d:Ad} {J:JO} {bs:List Nat} (hz:J.ar.length≤500) (hb:bs.length≤100) (q:Q .none (er d (J.withBody bs) σ)):TF (n+1) 288 [iA bs,.loc d.x] (er d J σ) Q:=by
 delta C n σ Q d J bs hz hb q at ⊢;have hK:=C.hK
 refine aW (by erw[hK];rfl) rfl rfl (by erw[hK];nofun) (by nofun) (by nofun) (pn fun U U=>rfl) ?_;delta c;fail "j";fail "w";refine' aa (by fail "a") C.g_len ?_;unfold er fe;fail "k";fail "w";refine bt (by fail "c") (by erw[cE];omega) ?_;erw[cE];fail "p";fail "w";refine ap ?_;fail "k";refine' aH slot_list_append (by rfl) rfl (by fail "c") ?_;refine' ⟨by fail "g",?_⟩;refine' am (by fail "b") (by simp[JO.rows];omega) ?_;refine ap ?_;fail "k";refine' aH slot_list_append (by rfl) rfl (by fail "c") ?_;refine' ⟨by fail "g",?_⟩;refine' am (by fail "b") (by simp[JO.rows];omega) ?_;refine ap ?_;fail "k";refine' aH slot_list_append (by rfl) rfl (by fail "c") ?_;refine' ⟨by fail "g",?_⟩;refine' am (by fail "b") (by simp[JO.rows];omega) ?_;refine ap ?_;fail "k";refine' aH slot_list_append (by rfl) rfl (by fail "c") ?_;refine' ⟨by fail "g",?_⟩;refine' am (by fail "b") (by simp[JO.rows];omega) ?_;refine' aO (fun i σ'=>σ'=er d ((bs.take i).foldl ma { J with body:=J.ar.length,ar:=J.ar++f6 }) σ) ?_;refine⟨trivial,_,.lst,?_,?_,?_⟩
 ·erw[List.take_zero];unfold er fe;simp[JO.rows,f6,fj,ej,gS,bU,j0,bC,aN.isBL];exact⟨⟨rfl,rfl,rfl,rfl⟩,⟨rfl,rfl,rfl,rfl⟩,⟨rfl,rfl,rfl,rfl⟩,rfl,rfl,rfl,rfl⟩
 ·delta i v σ' hv;intro z468;first|subst z468|cases z468
  rw[List.getElem?_map,Option.map_eq_some_iff]at hv;injection hv with b hb' rfl;have ht:bs.take (i+1)=bs.take i++[b]:=by erw[List.take_add_one,hb'];rfl
  have hl:=lD (bs.take i) { J with body:=J.ar.length,ar:=J.ar++f6 }
  have hti:=List.length_take_le' i bs
  erw[ht,List.foldl_append];generalize (bs.take i).foldl ma { J with body:=J.ar.length,ar:=J.ar++f6 }=J2 at hl;simp only[List.length_append,f6,List.length_cons,List.length_nil]at hl;unfold er fe;fail "w";refine ap ?_;fail "k";refine' aH slot_list_append (by rfl) rfl (by fail "c") ?_;refine' aa (by fail "a") C.g_len ?_;fail "k";fail "w";refine' bt (by fail "c") (by simp[JO.rows];exact Bx hl hz hti hb) ?_;erw[cE];refine' ⟨by fail "g",?_⟩;refine' am (by fail "b") (by simp[JO.rows];exact Bx hl hz hti hb) ?_;refine' bG ?_;refine⟨by decide,?_⟩;refine aU ?_;fail "k";refine' aa (by fail "a") C.g_len ?_;fail "k";fail "w";refine bt (by fail "c") (by simp[JO.rows];exact Il hl hz hti hb) ?_
  have hkn:((J2.ar.length+1:Nat):Int)∉((bi J2.ar 0).map co).map (fun U=>U.1):=by
   intro h;rw[List.map_map]at h;obtain⟨p,hp,e⟩:=List.mem_map.mp h;have:=(gp hp).2
   have e':((p.1:Nat):Int)=(J2.ar.length+1:Nat):=e
   exact Ik e' this hl
  have hml:(bi J2.ar 0).length≤1000:=by
   have:=bk (n:=J2.ar.length+1) (((db J2.ar 0).imp (fun h=>Nat.ne_of_lt h))) (fun j hj=>by obtain⟨p,hp,rfl⟩:=List.mem_map.mp hj;have:=(gp hp).2;exact Ij this hl)
   rw[List.length_map]at this;exact Ii this hl hz hti hb
  erw[List.length_append,List.length_map,List.length_map,List.length_singleton];refine dy (by fail "b") ?_ (by erw[List.length_map];omega);erw[ch hkn];fail "f";refine⟨by fail "d",?_⟩;exact xf (l:=[])
 ·delta σ';intro z471;first|subst z471|cases z471
  erw[List.length_map,List.take_length];have hl:=lD bs { J with body:=J.ar.length,ar:=J.ar++f6 }
  unfold JO.withBody at q;dsimp only at q;generalize bs.foldl ma { J with body:=J.ar.length,ar:=J.ar++f6 }=J2 at hl q;simp only[List.length_append,f6,List.length_cons,List.length_nil]at hl;have hz2:J2.ar.length≤700:=by exact Ih hl hz hb
  unfold er fe;fail "w";refine ap ?_;fail "k";refine' aH slot_list_append (by rfl) rfl (by fail "c") ?_;refine' ⟨by fail "g",?_⟩;refine' am (by fail "b") (by simp[JO.rows];omega) ?_;refine ap ?_;fail "k";refine' aH slot_list_append (by rfl) rfl (by fail "c") ?_;refine' ⟨by fail "g",?_⟩;refine' am (by fail "b") (by simp[JO.rows];omega) ?_;refine ap ?_;fail "k";refine' aH slot_list_append (by rfl) rfl (by fail "c") ?_;refine' ⟨by fail "g",?_⟩;refine' am (by fail "b") (by simp[JO.rows];omega) ?_;refine ap ?_;fail "k";refine' aH slot_list_append (by rfl) rfl (by fail "c") ?_;refine' ⟨by fail "g",?_⟩;refine' am (by fail "b") (by simp[JO.rows];omega) ?_;fail "f"
  have e:er d { J2 with ar:=J2.ar++lb } σ=fe d J2.name J2.key J2.size ((((J2.rows.map aN.v++[(aN.reg .mov 14 0 11).v])++[(aN.reg .ldr 15 14 (-4)).v])++[(aN.reg .ldr 11 14 (-8)).v])++[(aN.br 15 0).v]) ((b7 J2.ar 0).map gR) (J2.words.map f7) ((bi J2.ar 0).map co) (J2.cmds.map cC) (J2.body:Nat) σ:=by
   unfold er;simp[JO.rows,lb,fj,ej,gS,bU,j0,bC,aN.isBL]
  rw[e]at q;exact q
end
section
variable (C:kq) {n:Nat} {σ:aj} {Q:V→aj→Prop}
include C
theorem sT {d:Ad} {J:JO} {R:RO} {objs codes datas:List (Str×V)} {u v:V} {st w:Int} (hd:aB datas R.name=some (.int st)) (hw:R.words=[(0,w)]) (hw0:w≠0) (hz:J.words.length≤1000)
 (q:Q .none (er d { J with words:=J.words++[(st+0,w)] } σ)):TF (n+1) 281 [R.v,.obj 256 (kt (.dS objs) (.dS codes) (.dS datas) u v),.loc d.x] (er d J σ) Q:=by
 delta C n σ Q d J R objs codes datas u v st w hd hw hw0 hz q at ⊢;have hK:=C.hK
 refine cU (aW (by erw[hK];rfl) rfl rfl (by erw[hK];nofun) (by nofun) (by nofun) (md fun U U U=>rfl) ?_);delta c;fail "j";fail "w";fail "v";fail "w";fail "o";fail "w";refine' bo .dS hd ?_;refine f9 ?_;delta wa;fail "w";refine aO (fun i σ'=>σ'=(wa,.dI (if i=0 then[]else[((0:Int),.int w)]))::er d J σ) ?_;fail "o";erw[hw];refine⟨trivial,_,.lst,rfl,?_,?_⟩
 ·delta i v σ' hv;intro z472;first|subst z472|cases z472
  match i,hv with
  | 0,hv=>
   simp at hv;subst hv;unfold f7;fail "w";refine' aU ?_;simp only[if_true];refine dy (by fail "b") ?_ (by simp);fail "f";exact⟨by fail "d",rfl⟩
  | i+1,hv=>simp at hv
 delta σ';intro z473;first|subst z473|cases z473
 fail "w";refine aO (fun i σ'=>σ'=(wa,.dI [((0:Int),.int w)])::er d J σ) ?_;fail "o";refine⟨trivial,_,.lst,rfl,fun i v σ' hv=>by simp at hv,?_⟩;delta σ';intro z474;first|subst z474|cases z474
 fail "w";refine aO (fun i σ'=>σ'=(wa,.dI [((0:Int),.int w)])::er d (if i=0 then J else { J with words:=J.words++[(st+0,w)] }) σ) ?_;refine' bA (aa (by fail "a") C.g_sorted ?_);refine dH (us:=[0]) (l0 (kvs:=[((0:Int),V.int w)]) (by fail "c") (by simp)) (by simp) ?_;delta us' a' hp;intro _;obtain rfl:=uz C hp (by simp);refine⟨_,(wa,.dI [((0:Int),.int w)])::er d J σ,ay.lst (by fail "l"),trivial,_,.lst,rfl,?_,?_⟩
 ·delta i v σ' hv;intro z475;first|subst z475|cases z475
  match i,hv with
  | 0,hv=>
   simp at hv;subst hv;simp only[if_true];fail "w";refine' i5 (v:=.int w) (by fail "c") rfl ?_;refine aG (by simpa using hw0) ?_;unfold er fe;fail "w";refine ap ?_;fail "k";refine' aH slot_list_append (by rfl) rfl (by fail "c") ?_;refine' i5 (v:=.int w) (by fail "c") rfl ?_;refine' ⟨by fail "g",?_⟩;refine' am (by fail "b") (by simp;omega) ?_;fail "f";refine⟨by fail "d",?_⟩;simp[JO.rows,f7]
  | i+1,hv=>simp at hv
 delta σ';intro z476;first|subst z476|cases z476
 fail "w";refine aO (fun i σ'=>σ'=(wa,.dI [((0:Int),.int w)])::er d { J with words:=J.words++[(st+0,w)] } σ) ?_;fail "o";refine⟨trivial,_,.lst,rfl,fun i v σ' hv=>by simp at hv,?_⟩;delta σ';intro z477;first|subst z477|cases z477
 fail "f";refine⟨_,_,ay.drop (σ':=er d { J with words:=J.words++[(st+0,w)] } σ) (by fail "r"),?_⟩;exact q
end
def oP (start:Nat) (dat:Int) (pl:Nat→Nat→Nat) (i:Nat) (a:bR):aT:=match a.fx with
 | none=>⟨a.ins,none,a.mp⟩
 | some .data=>⟨a.ins.setThree (a.ins.three+dat),some false,a.mp⟩
 | some .addr=>⟨a.ins.setThree (a.ins.three+(start:Nat)),some true,a.mp⟩
 | some (.call m w)=>⟨.bl ((pl m w:Nat)-((start:Nat)+(i:Nat))-1) a.ins.three,none,a.mp⟩
def oO (start:Nat) (dat:Int) (pl:Nat→Nat→Nat):List bR→Nat→List aT
 | [],_=>[]
 | a::r,i=>oP start dat pl i a::oO start dat pl r (i+1)
theorem uS {start:Nat} {dat:Int} {pl:Nat→Nat→Nat} {i:Nat}:oO start dat pl [] i=[]:=rfl
theorem eH {start:Nat} {dat:Int} {pl:Nat→Nat→Nat} {a:bR} {r:List bR} {i:Nat}:oO start dat pl (a::r) i=oP start dat pl i a::oO start dat pl r (i+1):=rfl
theorem mu (start:Nat) (dat:Int) (pl:Nat→Nat→Nat):∀(l:List bR) (i:Nat),(oO start dat pl l i).length=l.length
 | [],_=>rfl
 | a::r,i=>by erw[eH,List.length_cons,mu start dat pl r,List.length_cons]
theorem uT (start:Nat) (dat:Int) (pl:Nat→Nat→Nat):∀(l:List bR) (i j:Nat),(oO start dat pl l i)[j]?=(l[j]?).map (oP start dat pl (i+j))
 | [],i,j=>by simp[uS,eH]
 | a::r,i,j=>by
  erw[eH];cases j with
  | zero=>simp
  | succ j=>simp only[List.getElem?_cons_succ];erw[uT start dat pl r (i+1) j,show i+1+j=i+(j+1)by exact vV]
def CJ:Nat×RF→List (Nat×Bool)
 | (i,.data)=>[(i,false)]
 | (i,.addr)=>[(i,true)]
 | (_,.call ..)=>[]
theorem vd (start:Nat) (dat:Int) (pl:Nat→Nat→Nat) (c:Nat):∀(l:List bR) (i:Nat),b7 (oO start dat pl l i) (c+i)=(bm l i).flatMap fun p=>(CJ p).map fun q=>(c+q.1,q.2)
 | [],_=>rfl
 | a::r,i=>by
  erw[eH,bU,d6,List.flatMap_append,show c+i+1=c+(i+1)by exact z9,vd start dat pl c r (i+1)];congr 1;unfold oP;cases a.fx with
  | none=>rfl
  | some f=>cases f<;>rfl
theorem lP (x:aN) (k:Int):(x.setThree k).isBL=x.isBL:=by cases x<;>rfl
theorem uM (start:Nat) (dat:Int) (pl:Nat→Nat→Nat) (c:Nat):∀(l:List bR) (i:Nat),(∀a∈l,∀m w,a.fx=some (.call m w)→a.ins.isBL=true)→bi (oO start dat pl l i) (c+i)=(bx l i).map fun p=>(c+p.1,p.2)
 | [],_,_=>rfl
 | a::r,i,h=>by
  erw[eH,bC,cF,List.map_append,show c+i+1=c+(i+1) by exact z9,uM start dat pl c r (i+1) fun b hb=>h b (.tail _ hb)];congr 1
  have e:(oP start dat pl i a).ins.isBL=a.ins.isBL:=by
   unfold oP;cases hf:a.fx with
   | none=>rfl
   | some f=>
    cases f with
    | data=>exact lP _ _
    | addr=>exact lP _ _
    | call m w=>exact(h a (.head _) m w hf).symm
  have e2:(oP start dat pl i a).mp=a.mp:=by
   unfold oP;cases a.fx with
   | none=>rfl
   | some f=>cases f<;>rfl
  erw[e,e2];split<;>rfl
def ph (start:Nat) (dat:Int) (pl:Nat→Nat→Nat) (ks:List Nat) (l:List bR):List aN:=l.zipIdx.map fun p=>if p.2∈ks then(oP start dat pl p.2 p.1).ins else p.1.ins
theorem kJ {start:Nat} {dat:Int} {pl:Nat→Nat→Nat} {ks:List Nat} {l:List bR}:(ph start dat pl ks l).length=l.length:=by simp[ph]
theorem iU {start:Nat} {dat:Int} {pl:Nat→Nat→Nat} {ks:List Nat} {l:List bR} {j:Nat}:(ph start dat pl ks l)[j]?=(l[j]?).map fun a=>if j∈ks then(oP start dat pl j a).ins else a.ins:=by
 unfold ph;erw[List.getElem?_map,List.getElem?_zipIdx,Option.map_map];cases l[j]?<;>simp
theorem nM {start:Nat} {dat:Int} {pl:Nat→Nat→Nat} {ks:List Nat} {l:List bR} {j:Nat} {a:bR} (h:l[j]?=some a):(ph start dat pl ks l).set j (oP start dat pl j a).ins=ph start dat pl (ks++[j]) l:=by
 apply List.ext_getElem?;intro i;erw[List.getElem?_set,iU,iU,kJ];by_cases e:j=i
 ·subst e;have:j<l.length:=by rw[List.getElem?_eq_some_iff]at h;exact h.1
  erw[if_pos rfl,h,if_pos this];simp
 ·erw[if_neg e];simp[Ne.symm e]
set_option tactic.hygienic true in
theorem eP:∀{rs:List bR} {i j:Nat} {f:RF},(j,f)∈bm rs i↔∃a,i≤j∧rs[j-i]?=some a∧a.fx=some f
 | [],i,j,b=>by simp[ls,d6]
 | x::r,i,j,b=>by
  erw[d6,List.mem_append,eP];constructor
  ·rintro(h|⟨a,h1,h2,h3⟩)
   ·split at h
    ·rename_i b' hb;simp at h;obtain⟨rfl,rfl⟩:=h;exact⟨x,Nat.le_refl _,by simp,hb⟩
    ·cases h
   ·refine⟨a,by exact z8 h1,?_,h3⟩;erw[show j-i=(j-(i+1))+1 by exact Bw h1];exact h2
  ·rintro⟨a,h1,h2,h3⟩;rcases Nat.eq_or_lt_of_le h1 with e|h1
   ·subst e;simp at h2;subst h2;erw[h3];simp
   ·refine .inr ⟨a,h1,?_,h3⟩;rw[show j-i=(j-(i+1))+1 by exact Bv h1 (by assumption)]at h2;exact h2
theorem gg:∀(rs:List bR) (i:Nat),((bm rs i).map (fun U=>U.1)).Nodup
 | [],_=>.nil
 | a::r,i=>by
  erw[d6,List.map_append,List.nodup_append];refine⟨by split<;>simp,gg r (i+1),fun x hx y hy e=>?_⟩;obtain⟨⟨p,f⟩,hp,rfl⟩:=List.mem_map.mp hy;obtain⟨_,h1,_⟩:=eP.mp hp;split at hx
  ·simp at hx;exact Ak h1 hx e
  ·cases hx
set_option tactic.hygienic true in
theorem xA {start:Nat} {dat:Int} {pl:Nat→Nat→Nat} {l:List bR}:ph start dat pl ((bm l 0).map (fun U=>U.1)) l=(oO start dat pl l 0).map aT.ins:=by
 delta start dat pl l at ⊢;apply List.ext_getElem?;delta i;erw[iU,List.getElem?_map,uT,Option.map_map,Nat.zero_add];cases h:l[i]? with
 | none=>rfl
 | some a=>
  delta a at *;simp only[Option.map_some,Function.comp];congr 1;split
  ·rfl
  ·rename_i hn;unfold oP;cases hf:a.fx with
   | none=>rfl
   | some f=>exact absurd (List.mem_map.mpr ⟨(i,f),eP.mpr ⟨a,Nat.zero_le _,h,hf⟩,rfl⟩) hn
theorem w9 {start:Nat} {dat:Int} {pl:Nat→Nat→Nat} {l:List bR}:ph start dat pl [] l=l.map bR.ins:=by
 apply List.ext_getElem?;intro i;erw[iU,List.getElem?_map];cases l[i]?<;>simp
def yu (start:Nat) (p:Nat×RF):List (Nat×Bool):=(CJ p).map fun q=>(start+q.1,q.2)
theorem gI:∀{rs:List bR} {i:Nat} {p:Nat×List Int},p∈bx rs i→i+1≤p.1∧p.1≤i+rs.length
 | [],_,_,h=>by cases h
 | a::r,i,p,h=>by
  rw[cF,List.mem_append]at h;rcases h with h|h
  ·split at h
   ·simp at h;subst h;simp
   ·cases h
  ·have:=gI h;simp only[List.length_cons];exact Bu this
theorem eD:∀(rs:List bR) (i:Nat),((bx rs i).map (fun U=>U.1)).Pairwise (·<·)
 | [],_=>.nil
 | a::r,i=>by
  erw[cF,List.map_append,List.pairwise_append];refine⟨by split<;>simp,eD r (i+1),fun x hx y hy=>?_⟩;obtain⟨p,hp,rfl⟩:=List.mem_map.mp hy;have:=(gI hp).1
  split at hx
  ·simp at hx;exact Br hx this
  ·cases hx
section
variable (C:kq) {n:Nat} {σ:aj} {Q:V→aj→Prop}
include C
theorem sS {d:Ad} {J:JO} {R:RO} {objs codes datas:List (Str×V)} {u v:V} {dat:Int} {pl:Nat→Nat→Nat} (hd:aB datas R.name=some (.int dat)) (hz:J.ar.length≤1000) (hr:R.ar.length≤1000)
 (hc:∀j m w,(j,RF.call m w)∈bm R.ar 0→∃m' w' x key,∃R2:RO,∃jj c:Nat,m=m'+1∧w=w'+1∧R.imps[m']?=some (x,key)∧aB objs x=some R2.v∧R2.ents[w']?=some jj∧aB codes x=some (.int (c:Nat))∧m'<1000∧w'<1000∧pl m w=c+jj)
 (hbl:∀a∈R.ar,∀m w,a.fx=some (.call m w)→a.ins.isBL=true) (hsm:∀p∈bx R.ar 0,p.2.length≤1000)
 (q:Q .none (er d { J with ar:=J.ar++oO J.ar.length dat pl R.ar 0 } σ)):TF (n+2) 274 [R.v,.obj 256 (kt (.dS objs) (.dS codes) (.dS datas) u v),.loc d.x] (er d J σ) Q:=by
 delta C n σ Q d J R objs codes datas u v dat pl hd hz hr hc hbl hsm q at ⊢
 have hK:=C.hK
 refine cU (aW (by erw[hK];rfl) rfl rfl (by erw[hK];nofun) (by nofun) (by nofun) (md fun U U U=>rfl) ?_)
 delta c
 fail "j"
 fail "w"
 have hF1:(b7 J.ar 0).length≤1000:=by
  have:=bk (n:=J.ar.length) (dg J.ar 0) (fun j hj=>by obtain⟨p,hp,rfl⟩:=List.mem_map.mp hj;have:=(gq hp).2;exact vU this)
  rw[List.length_map]at this;omega
 have hF2:(bm R.ar 0).length≤1000:=by
  have:=bk (n:=R.ar.length) (gg R.ar 0) (fun j hj=>by obtain⟨⟨j',f⟩,hp,rfl⟩:=List.mem_map.mp hj;obtain⟨a,_,h,_⟩:=eP.mp hp;rw[List.getElem?_eq_some_iff]at h;obtain⟨h,_⟩:=h;simpa using h)
  rw[List.length_map]at this;omega
 have hM1:(bi J.ar 0).length≤2000:=by
  have:=bk (n:=J.ar.length+1) (((db J.ar 0).imp (fun h=>Nat.ne_of_lt h))) (fun j hj=>by obtain⟨p,hp,rfl⟩:=List.mem_map.mp hj;have:=(gp hp).2;exact Ch this)
  rw[List.length_map]at this;exact Bq this hz
 have hM2:(bx R.ar 0).length≤2000:=by
  have:=bk (n:=R.ar.length+1) (((eD R.ar 0).imp (fun h=>Nat.ne_of_lt h))) (fun j hj=>by obtain⟨p,hp,rfl⟩:=List.mem_map.mp hj;have:=(gI hp).2;exact Ch this)
  rw[List.length_map]at this;exact Bq this hr
 have hjf:∀l:List (Nat×RF),(l.flatMap (yu J.ar.length)).length≤l.length:=fun l=>by
  induction l with
  | nil=>simp
  | cons p r ih=>
   obtain⟨j,f⟩:=p
   erw[List.flatMap_cons,List.length_append,List.length_cons]
   have:(yu J.ar.length (j,f)).length≤1:=by cases f<;>simp[yu,CJ]
   exact Ig this ih
 have hfl:∀i,((b7 J.ar 0++((bm R.ar 0).take i).flatMap (yu J.ar.length)).map gR).length≤1000000:=fun i=>by
  erw[List.length_map,List.length_append]
  have h1:=hjf ((bm R.ar 0).take i)
  have h2:=List.length_take_le' i (bm R.ar 0)
  exact Ie hF1 h1 h2 hF2
 refine' aa (by fail "a") C.g_len ?_
 unfold er fe
 fail "k"
 fail "w"
 refine bt (by fail "c") (by erw[cE];omega) ?_
 erw[List.length_map,JO.rows,List.length_map]
 fail "w"
 refine' aa (by fail "a") C.g_list ?_
 fail "o"
 fail "w"
 refine eV .lst (by erw[List.length_map,RO.rows,List.length_map];omega) ?_
 delta ra
 fail "w"
 refine aO (fun i σ'=>σ'=(ra,.lst ((ph J.ar.length dat pl (((bm R.ar 0).take i).map (fun U=>U.1)) R.ar).map aN.v))::
  fe d J.name J.key J.size ((J.ar.map aT.ins).map aN.v) ((b7 J.ar 0++((bm R.ar 0).take i).flatMap (yu J.ar.length)).map gR) (J.words.map f7) ((bi J.ar 0).map co) (J.cmds.map cC) (J.body:Nat) σ) ?_
 fail "o"
 refine⟨trivial,_,.lst,?_,?_,?_⟩
 ·erw[List.take_zero,List.map_nil,w9]
  unfold fe
  simp[RO.rows]
 ·delta i v σ' hv
  intro z478
  first|subst z478|cases z478
  rw[List.getElem?_map,Option.map_eq_some_iff]at hv
  first|((first|(injection (tU hv)with j z479;injection z479 with f z480)|(injection hv with z479 z480;injection z479 with j f));injection z480 with hj z481;(first|subst z481|cases z481))|(obtain⟨⟨j,f⟩,hj,rfl⟩:=hv)
  have hjm:=List.mem_of_getElem? hj
  have ht:(bm R.ar 0).take (i+1)=(bm R.ar 0).take i++[(j,f)]:=by erw[List.take_add_one,hj];rfl
  injection (eP.mp hjm)with a _ hja hfx
  rw[Nat.sub_zero]at hja
  have hjl:j<R.ar.length:=by rw[List.getElem?_eq_some_iff]at hja;exact hja.1
  have hnot:j∉((bm R.ar 0).take i).map (fun U=>U.1):=by
   have hilt:i<(bm R.ar 0).length:=by rw[List.getElem?_eq_some_iff]at hj;exact hj.1
   have hn:=gg R.ar 0
   have e4:(bm R.ar 0).map (fun U=>U.1)=((bm R.ar 0).take i).map (fun U=>U.1)++((bm R.ar 0).drop i).map (fun U=>U.1):=by erw[←List.map_append,List.take_append_drop]
   rw[e4,List.nodup_append]at hn
   intro h
   refine hn.2.2 j h j ?_ rfl
   erw[List.drop_eq_getElem_cons hilt]
   rw[List.getElem?_eq_some_iff]at hj
   simp[hj.2]
  have hcur:((ph J.ar.length dat pl (((bm R.ar 0).take i).map (fun U=>U.1)) R.ar).map aN.v)[j]?=some a.ins.v:=by
   erw[List.getElem?_map,iU,hja];simp only[Option.map_some];erw[if_neg hnot]
  unfold fe
  cases f with
  | data=>
   unfold fz
   have hset:=nM (start:=J.ar.length) (dat:=dat) (pl:=pl) (ks:=((bm R.ar 0).take i).map (fun U=>U.1)) hja
   fail "w"
   refine' aG (by nofun) ?_
   refine' aG (by nofun) ?_
   fail "v"
   fail "w"
   fail "o"
   fail "w"
   refine' bo .dS hd ?_
   refine' aa (by fail "a") C.g_grown ?_
   refine' al (v:=a.ins.v) (by fail "c") hcur (by exact hU) (by exact rt hjl hr) ?_
   refine aJ (TF.up (m:=n+1) (vm C ?_) (by omega))
   refine' aU ?_
   refine' cb (by fail "b") (by exact hU) (by erw[List.length_map,kJ];exact vW hjl) (by exact rt hjl hr) ?_
   refine ap ?_
   fail "k"
   refine' aH slot_list_append (by rfl) rfl (by fail "c") ?_
   refine' ⟨by fail "g",?_⟩
   refine am (by fail "b") ?_ ?_
   ·exact hfl i
   fail "w"
   refine⟨by fail "d",?_⟩
   have eA:(oP J.ar.length dat pl j a).ins=a.ins.setThree (a.ins.three+dat):=by unfold oP;erw[hfx]
   rw[eA]at hset
   erw[ht,List.map_append,List.map_singleton,←hset,List.map_set,List.flatMap_append,List.flatMap_singleton]
   dsimp only
   simp[yu,CJ,gR]
  | addr=>
   unfold fz
   have hset:=nM (start:=J.ar.length) (dat:=dat) (pl:=pl) (ks:=((bm R.ar 0).take i).map (fun U=>U.1)) hja
   fail "w"
   refine' aG (by nofun) ?_
   refine' ak (by nofun) ?_
   refine' aa (by fail "a") C.g_grown ?_
   refine' al (v:=a.ins.v) (by fail "c") hcur (by exact hU) (by exact rt hjl hr) ?_
   refine aJ (TF.up (m:=n+1) (vm C ?_) (by omega))
   refine' aU ?_
   refine' cb (by fail "b") (by exact hU) (by erw[List.length_map,kJ];exact vW hjl) (by exact rt hjl hr) ?_
   refine ap ?_
   fail "k"
   refine' aH slot_list_append (by rfl) rfl (by fail "c") ?_
   refine' ⟨by fail "g",?_⟩
   refine am (by fail "b") ?_ ?_
   ·exact hfl i
   fail "w"
   refine⟨by fail "d",?_⟩
   have eA:(oP J.ar.length dat pl j a).ins=a.ins.setThree (a.ins.three+(J.ar.length:Nat)):=by unfold oP;erw[hfx]
   rw[eA]at hset
   erw[ht,List.map_append,List.map_singleton,←hset,List.map_set,List.flatMap_append,List.flatMap_singleton]
   dsimp only
   simp[yu,CJ,gR]
  | call m w=>
   delta m w at *
   injection (hc j m w hjm)with m' w' x key R2 jj cc rfl rfl c1 c2 c3 c4 c5 c6 c7
   have hset:=nM (start:=J.ar.length) (dat:=dat) (pl:=pl) (ks:=((bm R.ar 0).take i).map (fun U=>U.1)) hja
   have hb:=hbl a (List.mem_of_getElem? hja) _ _ hfx
   obtain⟨ins,fx,mp⟩:=a;delta ins fx mp at *
   cases ins with
   | bl t k=>
    delta t k at *
    unfold fz
    fail "w"
    refine ak (by erw[beq_eq_false_iff_ne];exact Cg) ?_
    fail "f"
    fail "w"
    refine' ap ?_
    refine' yB (f:=253) (by erw[hK];nofun) (by erw[hK];nofun) (by erw[hK];nofun) (by erw[hK];nofun) (by nofun) ?_
    refine' aJ (TF.up (m:=n+1) (zS C c1 c2 c3 c4 c5 c6 ?_) (by omega))
    refine' aG (by nofun) ?_
    refine' al (v:=(aN.bl t k).v) (by fail "c") hcur (by exact hU) (by exact rt hjl hr) ?_
    refine' al (v:=(aN.bl t k).v) (by fail "c") hcur (by exact hU) (by exact rt hjl hr) ?_
    refine' al (v:=(aN.bl t k).v) (by fail "c") hcur (by exact hU) (by exact rt hjl hr) ?_
    refine' ⟨by fail "g",?_⟩
    refine' aU ?_
    refine cb (by fail "b") (by exact hU) (by erw[List.length_map,kJ];exact vW hjl) (by exact rt hjl hr) ?_
    fail "f"
    refine⟨by fail "d",?_⟩
    have eA:(oP J.ar.length dat pl j ⟨.bl t k,fx,mp⟩).ins=.bl ((pl (m'+1) (w'+1):Nat)-((J.ar.length:Nat)+(j:Nat))-1) k:=by unfold oP;erw[hfx];rfl
    rw[eA,c7]at hset
    erw[ht,List.map_append,List.map_singleton,←hset,List.map_set,List.flatMap_append,List.flatMap_singleton]
    dsimp only
    simp[yu,CJ,aN.op,aN.one,aN.two,aN.three]
    rfl
   | _=>cases hb
 ·delta σ'
  intro z502
  first|subst z502|cases z502
  erw[List.length_map,List.take_length,xA]
  unfold fe
  fail "w"
  refine ap ?_
  fail "k"
  refine' aH F.slot_list_extend (by rfl) rfl (by fail "c") ?_
  refine' ll (by fail "b") (by fail "c") (by simp[mu];exact Ic hz hr) ?_
  have hmk:((bx R.ar 0).map co).map (fun U=>U.1)=((bx R.ar 0).map (fun U=>U.1)).map fun j=>((j:Nat):Int):=by erw[List.map_map,List.map_map];rfl
  have hnd:(((bx R.ar 0).map co).map (fun U=>U.1)).Nodup:=by
   erw[hmk]
   exact((eD R.ar 0).imp (fun h=>Nat.ne_of_lt h)).map (fun j=>((j:Nat):Int)) (fun a b h e=>h (Int.ofNat.inj e))
  refine aO (fun i σ'=>σ'=(ra,.lst (((oO J.ar.length dat pl R.ar 0).map aT.ins).map aN.v))::fe d J.name J.key J.size ((J.ar.map aT.ins).map aN.v++((oO J.ar.length dat pl R.ar 0).map aT.ins).map aN.v)
   ((b7 J.ar 0++(bm R.ar 0).flatMap (yu J.ar.length)).map gR) (J.words.map f7) ((bi J.ar 0).map co++((bx R.ar 0).take i).map fun p=>co (J.ar.length+p.1,p.2)) (J.cmds.map cC) (J.body:Nat) σ) ?_
  fail "o"
  refine⟨trivial,_,.dI,?_,?_,?_⟩
  ·erw[List.take_zero,List.map_nil,List.append_nil];rfl
  ·delta i v σ' hv
   intro z503
   first|subst z503|cases z503
   rw[List.getElem?_map,List.getElem?_map,Option.map_map,Option.map_eq_some_iff]at hv
   first|((first|(injection (tU hv)with j z504;injection z504 with l z505)|(injection hv with z504 z505;injection z504 with j l));injection z505 with hj z506;(first|subst z506|cases z506))|(obtain⟨⟨j,l⟩,hj,rfl⟩:=hv)
   have hm:=List.mem_of_getElem? hj
   have hilt:i<(bx R.ar 0).length:=by rw[List.getElem?_eq_some_iff]at hj;exact hj.1
   have ht:(bx R.ar 0).take (i+1)=(bx R.ar 0).take i++[(j,l)]:=by erw[List.take_add_one,hj];rfl
   show TA _ _ (.int (j:Nat)) _ _ _
   unfold fe
   fail "w"
   refine' bA (aa (by fail "a") C.g_list ?_)
   fail "o"
   fail "w"
   refine' i5 (v:=.lst (l.map V.int)) .dI (cS hnd (List.mem_map.mpr ⟨_,hm,rfl⟩)) ?_
   refine eV .lst (by erw[List.length_map];have:l.length≤1000:=hsm _ hm;omega) ?_
   delta b
   refine' ⟨_,_,ay.lst (by fail "l"),?_⟩
   refine aU ?_
   fail "k"
   fail "w"
   have hnew:(J.ar.length:Int)+(j:Nat)∉((bi J.ar 0).map co++((bx R.ar 0).take i).map fun p=>co (J.ar.length+p.1,p.2)).map (fun U=>U.1):=by
    intro h
    rw[List.map_append,List.mem_append]at h
    rcases h with h|h
    ·obtain⟨_,h1,e⟩:=List.mem_map.mp h
     obtain⟨p,h2,rfl⟩:=List.mem_map.mp h1
     have h3:=(gp h2).2
     have h4:=(gI hm).1
     have e':((p.1:Nat):Int)=(J.ar.length:Int)+(j:Nat):=e
     exact DR e' h4 h3
    ·obtain⟨_,h1,e⟩:=List.mem_map.mp h
     obtain⟨p,h2,rfl⟩:=List.mem_map.mp h1
     have hs1:=eD R.ar 0
     have e4:(bx R.ar 0).map (fun U=>U.1)=((bx R.ar 0).take i).map (fun U=>U.1)++((bx R.ar 0).drop i).map (fun U=>U.1):=by erw[←List.map_append,List.take_append_drop]
     rw[e4,List.pairwise_append]at hs1
     have hlt:=hs1.2.2 p.1 (List.mem_map.mpr ⟨_,h2,rfl⟩) j (by erw[List.drop_eq_getElem_cons hilt];rw[List.getElem?_eq_some_iff]at hj;simp[hj.2])
     have e':((J.ar.length+p.1:Nat):Int)=(J.ar.length:Int)+(j:Nat):=e
     exact Ib e' hlt
   refine dy (by fail "b") ?_ (by simp only[List.length_append,List.length_map,List.length_take];exact LP (by assumption) (by assumption))
   erw[ch hnew]
   fail "f"
   refine⟨by fail "d",?_⟩
   erw[ht,List.map_append,List.append_assoc]
   rfl
  ·delta σ'
   intro z507
   first|subst z507|cases z507
   erw[List.length_map,List.length_map,List.take_length]
   fail "f"
   refine⟨_,_,ay.drop ?_,q⟩
   have e1:=vd J.ar.length dat pl J.ar.length R.ar 0
   have e2:=uM J.ar.length dat pl J.ar.length R.ar 0 hbl
   rw[Nat.add_zero]at e1 e2
   have e:er d { J with ar:=J.ar++oO J.ar.length dat pl R.ar 0 } σ=fe d J.name J.key J.size ((J.ar.map aT.ins).map aN.v++((oO J.ar.length dat pl R.ar 0).map aT.ins).map aN.v)
    ((b7 J.ar 0++(bm R.ar 0).flatMap (yu J.ar.length)).map gR) (J.words.map f7) ((bi J.ar 0).map co++(bx R.ar 0).map fun p=>co (J.ar.length+p.1,p.2)) (J.cmds.map cC) (J.body:Nat) σ:=by
    unfold er
    dsimp only
    erw[fj,ej,Nat.zero_add,e1,e2]
    simp[JO.rows,List.map_map,Function.comp_def]
    rfl
   erw[e]
   exact List.Sublist.cons _ (List.Sublist.refl _)
end
theorem At.app {σ:aj} {a:Addr} {c:bp} (h:At σ a c):∀l:aj,At (l++σ) a c
 | []=>h
 | _::l=>.there (At.app h l)
theorem fK.app {σ σ':aj} {a:Addr} {c c':bp} (h:fK σ a c c' σ'):∀l:aj,fK (l++σ) a c c' (l++σ')
 | []=>h
 | _::l=>.there (fK.app h l)
structure bz where
 R:Str→RO
 names:List Str
 rank:Str→Nat
 deriving Nonempty
def bz.imp (F:bz) (x:Str):List Str:=(F.R x).imps.map (fun U=>U.1)
structure bz.Ok (F:bz) (objs:List (Str×V)):Prop where
 obj:∀x∈F.names,aB objs x=some (F.R x).v
 name:∀x∈F.names,(F.R x).name=x
 sub:∀x∈F.names,∀p∈(F.R x).imps,p.1∈F.names∧F.rank p.1<F.rank x∧p.2=(F.R p.1).key
 few:F.names.length≤1000
 imps:∀x∈F.names,(F.R x).imps.length≤1000
def n9 (imp:Str→List Str):Nat→Str→List Str→List Str
 | 0,_,acc=>acc
 | f+1,x,acc=>if x∈acc then acc else(imp x).foldl (fun a y=>n9 imp f y a) acc++[x]
theorem CK {imp:Str→List Str} {x:Str} {acc:List Str}:n9 imp 0 x acc=acc:=rfl
theorem ke {imp:Str→List Str} {f:Nat} {x:Str} {acc:List Str}:n9 imp (f+1) x acc=if x∈acc then acc else(imp x).foldl (fun a y=>n9 imp f y a) acc++[x]:=rfl
def bz.need (F:bz) (x:Str) (acc:List Str):List Str:=n9 F.imp (F.rank x+1) x acc
theorem kg {α β:Type} {f g:α→β→α}:∀{l:List β} {b:α},(∀a,∀y∈l,f a y=g a y)→l.foldl f b=l.foldl g b
 | [],_,_=>rfl
 | y::r,b,h=>by erw[List.foldl_cons,List.foldl_cons,h b y (.head _)];exact kg fun a z hz=>h a z (.tail _ hz)
section
variable {F:bz} {objs:List (Str×V)} (O:F.Ok objs)
include O
theorem ec {x y:Str} (hx:x∈F.names) (hy:y∈F.imp x):y∈F.names∧F.rank y<F.rank x:=by
 obtain⟨p,hp,rfl⟩:=List.mem_map.mp hy;exact⟨(O.sub x hx p hp).1,(O.sub x hx p hp).2.1⟩
theorem n8:∀(f g:Nat) {x:Str} {acc:List Str},x∈F.names→F.rank x<f→F.rank x<g→n9 F.imp f x acc=n9 F.imp g x acc
 | 0,_,_,_,_,h,_=>by omega
 | _,0,_,_,_,_,h=>by omega
 | f+1,g+1,x,acc,hx,hf,hg=>by
  erw[ke,ke];erw[kg fun a y hy=>n8 f g (ec O hx hy).1 (by have:=(ec O hx hy).2;exact s8 this hf) (by have:=(ec O hx hy).2;exact s8 this hg)]
theorem gl {x:Str} {acc:List Str} (hx:x∈F.names):F.need x acc=if x∈acc then acc else(F.imp x).foldl (fun a y=>F.need y a) acc++[x]:=by
 unfold bz.need;erw[ke];erw[kg fun a y hy=>n8 O (F.rank x) (F.rank y+1) (ec O hx hy).1 (ec O hx hy).2 (by omega)]
end
def CI (F:bz):List (Str×Nat)→List Str→List Str
 | [],o=>o
 | (x,k)::r,o=>CI F r (((F.imp x).drop k).foldl (fun a y=>F.need y a) o++[x])
structure fy (F:bz) (Sd:List (Str×V)) (fr:List (Str×Nat)) (o:List Str):Prop where
 get:∀y,aB Sd y=if y∈fr.map (fun U=>U.1)then some (.int 1)else if y∈o then some (.int 2)else none
 nd:(Sd.map (fun U=>U.1)).Nodup
 sub:∀y∈Sd.map (fun U=>U.1),y∈F.names
 asc:(fr.map (fun U=>U.1)).Pairwise (fun a b=>F.rank a<F.rank b)
 dis:∀x∈fr.map (fun U=>U.1),x∉o
 frn:∀x∈fr.map (fun U=>U.1),x∈F.names
 kk:∀p∈fr,p.2≤(F.imp p.1).length
 ond:o.Nodup
 osub:∀x∈o,x∈F.names
theorem ei {α:Type} [DecidableEq α]:∀{l l':List α},l.Nodup→(∀x∈l,x∈l')→l.length≤l'.length
 | [],_,_,_=>by simp
 | x::r,l',hn,hs=>by
  rw[List.nodup_cons]at hn;have h1:=ei (l:=r) (l':=l'.erase x) hn.2 fun y hy=>(List.mem_erase_of_ne (fun e:y=x=>hn.1 (by erw[←e];exact hy))).mpr (hs y (.tail _ hy))
  have h2:=List.length_erase_of_mem (hs x (.head _))
  have h3:=List.length_pos_of_mem (hs x (.head _))
  erw[List.length_cons];exact I9 h3 h1 h2
def pj (F:bz) (Sd:List (Str×V)) (fr:List (Str×Nat)):Nat:=
 ((F.names.filter fun y=>(aB Sd y).isNone).map fun y=>(F.imp y).length+2).sum+(fr.map fun p=>(F.imp p.1).length-p.2+1).sum
theorem jL {α:Type} {f:α→Nat} {p p':α→Bool}:∀(l:List α),(∀y∈l,p' y=true→p y=true)→((l.filter p').map f).sum≤((l.filter p).map f).sum
 | [],_=>Nat.le_refl _
 | y::r,h=>by
  have ih:=jL (f:=f) r fun z hz=>h z (.tail _ hz)
  have h0:=h y (.head _)
  erw[List.filter_cons,List.filter_cons];cases h1:p' y<;>cases h2:p y<;>simp_all<;>exact I8 ih
theorem jK {α:Type} {f:α→Nat} {p p':α→Bool} {x:α}:∀(l:List α),(∀y∈l,p' y=true→p y=true)→x∈l→p x=true→p' x=false→((l.filter p').map f).sum+f x≤((l.filter p).map f).sum
 | [],_,hx,_,_=>by cases hx
 | y::r,h,hx,h1,h2=>by
  erw[List.filter_cons,List.filter_cons];by_cases e:y=x
  ·subst e;have:=jL (f:=f) r fun z hz=>h z (.tail _ hz)
   simp[h1,h2];exact I7 this
  ·have hx':x∈r:=by
    cases hx with
    | head=>exact absurd rfl e
    | tail _ h=>exact h
   have ih:=jK (f:=f) r (fun z hz=>h z (.tail _ hz)) hx' h1 h2
   have h0:=h y (.head _)
   cases h3:p' y<;>cases h4:p y<;>simp_all<;>(first|exact I6 ih|exact Bp ih)
section
variable {F:bz} {Sd:List (Str×V)} {fr:List (Str×Nat)} {o:List Str}
theorem fy.size (I:fy F Sd fr o):Sd.length≤F.names.length:=by
 have:=ei I.nd I.sub
 rwa[List.length_map]at this
theorem fy.osize (I:fy F Sd fr o):o.length≤F.names.length:=ei I.ond I.osub
theorem fy.frsize (I:fy F Sd fr o):fr.length≤F.names.length:=by
 have:=ei (I.asc.imp fun h e=>by rw[e]at h;exact Bo h) I.frn
 rwa[List.length_map]at this
theorem y5 {kvs:List (Str×V)} {y:Str}:y∈kvs.map (fun U=>U.1)↔(aB kvs y).isSome=true:=by
 erw[m0,decide_eq_true_iff]
theorem fy.start {x:Str} (I:fy F Sd [] o) (hx:x∈F.names) (hxo:x∉o):fy F (bj Sd x (.int 1)) [(x,0)] o:=by
 delta F Sd o x I hx hxo at ⊢
 have hn:∀z,aB (bj Sd x (.int 1)) z=if z=x then some (.int 1)else aB Sd z:=fun z=>by
  by_cases e:z=x
  ·subst e;erw[gB,if_pos rfl]
  ·erw[j6 _ _ e,if_neg e]
 refine⟨fun z=>?_,k6 I.nd,fun z hz=>?_,by simp,fun z hz=>?_,fun z hz=>?_,fun p hp=>?_,I.ond,I.osub⟩
 ·erw[hn,I.get];by_cases e:z=x
  ·subst e;simp
  ·erw[if_neg e];simp only[List.map_cons,List.map_nil,List.mem_cons,e,false_or]
 ·rw[jn]at hz;split at hz
  ·exact I.sub z hz
  ·rw[List.mem_append,List.mem_singleton]at hz;rcases hz with h|rfl
   ·exact I.sub z h
   ·exact hx
 ·simp at hz;subst hz;exact hxo
 ·simp at hz;subst hz;exact hx
 ·simp at hp;subst hp;exact Nat.zero_le _
theorem fy.pop {x:Str} {k:Nat} (I:fy F Sd ((x,k)::fr) o):fy F (bj Sd x (.int 2)) fr (o++[x])∧pj F (bj Sd x (.int 2)) fr<pj F Sd ((x,k)::fr):=by
 delta F Sd fr o x k I at ⊢
 have hx:x∉fr.map (fun U=>U.1):=fun h=>by
  have:=I.asc
  rw[List.map_cons,List.pairwise_cons]at this;exact Nat.lt_irrefl _ (this.1 x h)
 have hxo:x∉o:=I.dis x (by simp)
 have hg:aB Sd x=some (.int 1):=by erw[I.get,if_pos (by simp)]
 have hk:x∈Sd.map (fun U=>U.1):=by erw[y5,hg];rfl
 have hn:∀y,aB (bj Sd x (.int 2)) y=if y=x then some (.int 2)else aB Sd y:=fun y=>by
  by_cases e:y=x
  ·subst e;erw[gB,if_pos rfl]
  ·erw[j6 _ _ e,if_neg e]
 refine⟨⟨fun y=>?_,k6 I.nd,fun y hy=>?_,?_,fun y hy=>?_,fun y hy=>I.frn y (by simp only[List.map_cons,List.mem_cons];exact .inr hy),fun p hp=>I.kk p (.tail _ hp),?_,fun y hy=>?_⟩,?_⟩
 ·erw[hn,I.get];by_cases e:y=x
  ·subst e;simp[hx]
  ·erw[if_neg e];simp only[List.map_cons,List.mem_cons,e,false_or,List.mem_append,List.mem_singleton,List.not_mem_nil,or_false]
 ·rw[jn,if_pos hk]at hy;exact I.sub y hy
 ·have:=I.asc;rw[List.map_cons,List.pairwise_cons]at this;exact this.2
 ·erw[List.mem_append,List.mem_singleton];rintro(h|rfl)
  ·exact I.dis y (by simp only[List.map_cons,List.mem_cons];exact .inr hy) h
  ·exact hx hy
 ·erw[List.nodup_append];exact⟨I.ond,by simp,fun a ha b hb=>by rw[List.mem_singleton]at hb;subst hb;intro e;exact hxo (e▸ha)⟩
 ·rw[List.mem_append,List.mem_singleton]at hy;rcases hy with h|rfl
  ·exact I.osub y h
  ·exact I.frn y (by simp)
 ·unfold pj
  have e1:(fun y=>(aB (bj Sd x (.int 2)) y).isNone)=fun y=>(aB Sd y).isNone:=by
   funext y;erw[hn];by_cases e:y=x
   ·subst e;simp[hg]
   ·simp[e]
  erw[e1,List.map_cons,List.sum_cons];exact HW
theorem fy.turn {x:Str} {k:Nat} (I:fy F Sd ((x,k)::fr) o) (hk:k<(F.imp x).length):fy F Sd ((x,k+1)::fr) o∧pj F Sd ((x,k+1)::fr)<pj F Sd ((x,k)::fr):=by
 refine⟨⟨I.get,I.nd,I.sub,I.asc,I.dis,I.frn,fun p hp=>?_,I.ond,I.osub⟩,?_⟩
 ·cases hp with
  | head=>exact hk
  | tail _ h=>exact I.kk p (.tail _ h)
 ·unfold pj;simp only[List.map_cons,List.sum_cons];exact HV hk
theorem fy.push {x y:Str} {k:Nat} (I:fy F Sd ((x,k)::fr) o) (hk:k<(F.imp x).length) (hy:y∈F.names) (hr:F.rank y<F.rank x) (hg:aB Sd y=none):
 fy F (bj Sd y (.int 1)) ((y,0)::(x,k+1)::fr) o∧pj F (bj Sd y (.int 1)) ((y,0)::(x,k+1)::fr)<pj F Sd ((x,k)::fr):=by
 delta F Sd fr o x y k I hk hy hr hg at ⊢;injection (I.turn hk)with I' hm
 have hny:y∉((x,k+1)::fr).map (fun U=>U.1)∧y∉o:=by
  have h:=I'.get y
  rw[hg]at h;refine⟨fun h1=>?_,fun h2=>?_⟩
  ·rw[if_pos h1]at h;cases h
  ·by_cases h1:y∈((x,k+1)::fr).map (fun U=>U.1)
   ·rw[if_pos h1]at h;cases h
   ·rw[if_neg h1,if_pos h2]at h;cases h
 have hn:∀z,aB (bj Sd y (.int 1)) z=if z=y then some (.int 1)else aB Sd z:=fun z=>by
  by_cases e:z=y
  ·subst e;erw[gB,if_pos rfl]
  ·erw[j6 _ _ e,if_neg e]
 refine⟨⟨fun z=>?_,k6 I.nd,fun z hz=>?_,?_,fun z hz=>?_,fun z hz=>?_,fun p hp=>?_,I.ond,I.osub⟩,?_⟩
 ·erw[hn,I'.get];by_cases e:z=y
  ·subst e;simp
  ·erw[if_neg e];simp only[List.map_cons,List.mem_cons,e,false_or]
 ·rw[jn]at hz;split at hz
  ·exact I.sub z hz
  ·rw[List.mem_append,List.mem_singleton]at hz;rcases hz with h|rfl
   ·exact I.sub z h
   ·exact hy
 ·erw[List.map_cons,List.pairwise_cons];refine⟨?_,I'.asc⟩;delta z hz;have:=I'.asc
  rw[List.map_cons,List.pairwise_cons]at this;rw[List.map_cons,List.mem_cons]at hz;rcases hz with rfl|hz
  ·exact hr
  ·exact Nat.lt_trans hr (this.1 z hz)
 ·rw[List.map_cons,List.mem_cons]at hz;rcases hz with rfl|hz
  ·exact hny.2
  ·exact I'.dis z hz
 ·rw[List.map_cons,List.mem_cons]at hz;rcases hz with rfl|hz
  ·exact hy
  ·exact I'.frn z hz
 ·rw[List.mem_cons]at hp;rcases hp with rfl|hp
  ·exact Nat.zero_le _
  ·exact I'.kk p hp
 ·have h1:=jK (f:=fun y=>(F.imp y).length+2) (p:=fun z=>(aB Sd z).isNone) (p':=fun z=>(aB (bj Sd y (.int 1)) z).isNone) F.names
   (fun z U h=>by rw[hn]at h;by_cases e:z=y<;>simp_all) hy (by simp[hg]) (by simp[hn])
  unfold pj at hm ⊢;erw[List.map_cons,List.sum_cons];dsimp only at h1 ⊢;exact HU h1 hm
end
theorem aK.perm {B P:aS} {σ σ':aj} {s:Shared} (I:aK B P σ s) (u:σ'.Perm σ):aK B P σ' s:=
 ⟨I.sub,I.base,I.prot,I.disj,fun p hp=>I.sto p (u.mem_iff.mp hp),((u.map _).cons _).nodup_iff.mpr I.nd,I.gens,I.os⟩
theorem aC.perm {η:aI} {σ σ':aj} (h:σ'.Perm σ):aC η σ η σ':=fun B P env s I=>by
 obtain⟨⟨oL,m,J0,N,E⟩,pl,ok⟩:=I;exact⟨B,bh.refl _,⟨oL,m,J0.perm h,N,E⟩,pl,ok⟩
def Lm (F:bz) (fs:List (Addr×Str×Nat)):aj:=fs.map fun p=>(p.1,.lst [(F.R p.2.1).v,.int (p.2.2:Nat)])
def y7 (fs:List (Addr×Str×Nat)):List V:=(fs.map fun p=>V.loc p.1).reverse
theorem kT {p:Addr×Str×Nat} {fs:List (Addr×Str×Nat)}:y7 (p::fs)=y7 fs++[.loc p.1]:=by simp[y7]
theorem kP {vs:List V} {v:V}:(vs++[v])[(vs++[v]).length-1]?=some v:=by simp
theorem ye {vs:List V} {v:V}:(vs++[v]).dropLast=vs:=by simp
section
variable (C:kq) {n:Nat} {σ:aj} {Q:V→aj→Prop}
include C
theorem zO {F:bz} {objs:List (Str×V)} (O:F.Ok objs) {x:Str} {o:List Str} {Sd:List (Str×V)} {ao sd:Addr} (hx:x∈F.names) (hxo:x∉o) (I0:fy F Sd [] o)
 (q:∀Sd',fy F Sd' [] (F.need x o)→Q .none ((sd,.dS Sd')::(ao,.lst ((F.need x o).map V.str))::σ)):TF (n+2) 218 [.dS objs,.str x,.loc ao,.loc sd] ((sd,.dS Sd)::(ao,.lst (o.map V.str))::σ) Q:=by
 delta C n σ Q F objs O x o Sd ao sd hx hxo I0 q at ⊢;have hK:=C.hK
 refine cU (aW (by erw[hK];rfl) rfl rfl (by erw[hK];nofun) (by nofun) (by nofun) (xJ fun U U U U=>rfl) ?_);delta c;fail "j";fail "w";refine' b8 ?_;refine' b8 ?_;refine' aa (by fail "a") C.g_found_object ?_;refine' aJ (TF.up (m:=n+1) (g8 C (O.obj x hx) ?_) (by omega));refine⟨by fail "g",?_⟩;delta a;fail "w";refine⟨by fail "g",?_⟩;delta st;fail "w";refine' aU ?_;have hs0:=I0.size
 have hfew:=O.few
 refine f0 (by fail "b") ?_ (by omega);refine' b5 (aC.perm (σ':=(a,.lst [(F.R x).v,.int 0])::(st,.lst [.loc a])::(sd,.dS (bj Sd x (.int 1)))::(ao,.lst (o.map V.str))::σ) (List.Perm.swap _ _ _)) ?_
 refine iF (fun m η' σ'=>∃fs Sd o',fy F Sd (fs.map (fun U=>U.2)) o'∧CI F (fs.map (fun U=>U.2)) o'=F.need x o∧m=pj F Sd (fs.map (fun U=>U.2))∧η'=([("objects",.val (.dS objs)),("first",.val (.str x)),("order",.val (.loc ao)),("states",.val (.loc sd)),("stack",.val (.loc st)),("made",.un),("turn",.un),("name",.un),("key",.un),("below",.un),("found_object",.glb),("len",.glb),("LoadError",.glb)]:aI)∧σ'=Lm F fs++(st,.lst (y7 fs))::(sd,.dS Sd)::(ao,.lst (o'.map V.str))::σ) _
  ⟨[(a,x,0)],bj Sd x (.int 1),o,I0.start hx hxo,?_,rfl,rfl,rfl⟩ ?_
 ·erw[gl O hx,if_neg hxo];rfl
 delta m η' σ';intro z508;injection z508 with fs Sd1 o1 I hu rfl rfl rfl;have hs1:=I.size
 have hs2:=I.osize
 have hs3:=I.frsize
 rw[List.length_map]at hs3;fail "w";refine' aa (by fail "a") C.g_len ?_;refine' bt (aM.loc (At.app .here _)) (by simp[y7];omega) ?_;cases fs with
 | nil=>
  refine ak (by simp[y7]) ?_;fail "f";refine⟨_,_,ay.drop ?_,q Sd1 ?_⟩
  ·erw[←hu];exact List.Sublist.cons _ (List.Sublist.refl _)
  ·erw[←hu];exact I
 | cons p fs=>
  delta p fs at *;obtain⟨a1,x1,k1⟩:=p;delta a1 x1 k1 at *;rw[List.length_cons]at hs3;refine aG (by simp[y7]) ?_;have hx1:x1∈F.names:=I.frn x1 (by simp)
  have hk1:k1≤(F.imp x1).length:=I.kk (x1,k1) (by simp)
  have hil:(F.imp x1).length=(F.R x1).imps.length:=by simp[bz.imp]
  have hi1:=O.imps x1 hx1
  erw[kT];show dl _ _ _ ((a1,.lst [(F.R x1).v,.int (k1:Nat)])::(Lm F fs++(st,.lst (y7 fs++[.loc a1]))::(sd,.dS Sd1)::(ao,.lst (o1.map V.str))::σ)) _
  fail "w";refine qw (aM.loc (.there (At.app .here _))) kP ?_;refine' vG (vs:=[(F.R x1).v,.int (k1:Nat)]) (by fail "c") ?_;refine' aa (by fail "a") C.g_len ?_;fail "o";fail "w";refine' bt .lst (by erw[List.length_map];omega) ?_;erw[List.length_map];by_cases hk:k1=(F.imp x1).length
  ·refine aG (by erw[beq_iff_eq];exact HT hk hil) ?_;injection (fy.pop (fr:=fs.map (fun U=>U.2)) I)with I2 hm;fail "w";refine' aU ?_;fail "o";erw[O.name x1 hx1];refine' f0 (.there (fK.app (.there .here) _)) ?_ (by omega);refine' ap ?_;refine' aH slot_list_append (by rfl) rfl (aM.loc (.there (At.app (.there (.there .here)) _))) ?_;fail "o";erw[O.name x1 hx1];fail "w";refine' am (.there (fK.app (.there (.there .here)) _)) (by erw[List.length_map];omega) ?_;refine' ap ?_;refine mH PySem.F.slot_list_pop (by rfl) rfl (aM.loc (.there (At.app .here _))) ?_;refine tr kP (.there (fK.app .here _)) (by simp[y7];exact Bn hs3 hfew) ?_;erw[ye];show dl _ _ _ _ _
   refine bq ?_;refine wK (η':=([("objects",.val (.dS objs)),("first",.val (.str x)),("order",.val (.loc ao)),("states",.val (.loc sd)),("stack",.val (.loc st)),("made",.un),("turn",.un),("name",.un),("key",.un),("below",.un),("found_object",.glb),("len",.glb),("LoadError",.glb)]:aI)) (aC.trans (aC.weak (by fail "d")) (aC.drop (List.Sublist.cons _ (List.Sublist.refl _)))) ?_;refine⟨_,hm,fs,_,_,I2,?_,rfl,rfl,?_⟩
   ·erw[←hu];show _=CI F (fs.map (fun U=>U.2)) (((F.imp x1).drop k1).foldl (fun a y=>F.need y a) o1++[x1])
    erw[hk,List.drop_length];rfl
   ·erw[List.map_append];rfl
  ·refine ak (by erw[beq_eq_false_iff_ne];exact HS hk1 hil hk) ?_;have hk2:k1<(F.imp x1).length:=by exact HR hk1 hk
   have hk3:k1<(F.R x1).imps.length:=by exact HP hk1 hil hk
   have hget:(F.R x1).imps[k1]?=some (F.R x1).imps[k1]:=List.getElem?_eq_getElem hk3
   first|((first|(injection (tU (tT hget))with y z519;injection z519 with key hget)|(injection (tT hget)with z519 hget;injection z519 with y key)))|(obtain⟨⟨y,key⟩,hget⟩:=tT hget;delta hget y key at *)
   have hyi:(F.imp x1)[k1]=y:=by
    have:=(List.getElem?_eq_some_iff.mp hget).2
    simp[bz.imp,this]
   injection (O.sub x1 hx1 _ (List.mem_of_getElem? hget))with hy1 hy2 hy3;dsimp only at hy1 hy2 hy3;subst hy3;fail "f";fail "w";refine' aU ?_;refine' qw (aM.loc (.there (At.app .here _))) kP ?_;refine cb .here (by omega) (by simp) (by omega) ?_;show dl _ _ _ ((a1,.lst [(F.R x1).v,.int ((k1:Nat)+1)])::(Lm F fs++(st,.lst (y7 fs++[.loc a1]))::(sd,.dS Sd1)::(ao,.lst (o1.map V.str))::σ)) _
   fail "w";fail "o";fail "w";refine al (v:=lC (y,(F.R y).key)) .lst (by erw[Int.toNat_natCast,List.getElem?_map,hget];rfl) (by exact hU) (by exact HO hk1 hil hi1 hk) ?_;unfold lC;fail "w";refine' ap ?_;refine' ji PySem.F.slot_dict_get (by rfl) PySem.F.plainAttrs_dict rfl (aM.loc (.there (At.app (.there .here) _))) (.inl ⟨_,rfl⟩) ?_;refine mI (aM.loc (.there (At.app (.there .here) _))) ?_
   have hnf:y∉((x1,k1)::fs.map (fun U=>U.2)).map (fun U=>U.1):=fun h=>by
    have h1:=I.asc
    rw[List.map_cons,List.map_cons,List.pairwise_cons]at h1;rw[List.map_cons,List.mem_cons]at h;rcases h with rfl|h
    ·exact Nat.lt_irrefl _ hy2
    ·exact Nat.lt_asymm hy2 (h1.1 y h)
   have hgy:=I.get y
   rw[List.map_cons,if_neg hnf]at hgy
   have hunw:CI F ((x1,k1+1)::fs.map (fun U=>U.2)) (F.need y o1)=F.need x o:=by
    erw[←hu];show CI F (fs.map (fun U=>U.2)) _=CI F (fs.map (fun U=>U.2)) (((F.imp x1).drop k1).foldl (fun a y=>F.need y a) o1++[x1])
    rewrite [List.drop_eq_getElem_cons hk2,List.foldl_cons,hyi];rfl
   have hg1:(V.int 0:V)=.int 0:=rfl
   have hget1:∀w,(aB Sd1 y).getD (.int 0)=.int w→w≠1:=fun w h=>by
    rw[hgy]at h;by_cases hyo:y∈o1
    ·rw[if_pos hyo]at h;cases h;decide
    ·rw[if_neg hyo]at h;cases h;decide
   have hex:∃w,(aB Sd1 y).getD (.int 0)=.int w∧(w=0↔y∉o1):=by
    erw[hgy];by_cases hyo:y∈o1
    ·erw[if_pos hyo];exact⟨2,rfl,by simp[hyo]⟩
    ·erw[if_neg hyo];exact⟨0,rfl,by simp[hyo]⟩
   injection hex with w hw1 hw2;have hw3:=hget1 w hw1
   erw[hw1];fail "w";refine ak (by erw[beq_eq_false_iff_ne];exact hw3) ?_;fail "f";fail "w";refine' aa (by fail "a") C.g_found_object ?_;fail "o";fail "w";refine' aJ (TF.up (m:=n+1) (g8 C (O.obj y hy1) ?_) (by omega));fail "o";fail "w";refine ak (by simp) ?_;fail "f";fail "w";refine' ap ?_;refine' ji PySem.F.slot_dict_get (by rfl) PySem.F.plainAttrs_dict rfl (aM.loc (.there (At.app (.there .here) _))) (.inl ⟨_,rfl⟩) ?_;refine mI (aM.loc (.there (At.app (.there .here) _))) ?_;erw[hw1];fail "w";by_cases hyo:y∈o1
   ·refine ak (by erw[beq_eq_false_iff_ne];intro h;exact hw2.mp h hyo) ?_;injection (fy.turn (fr:=fs.map (fun U=>U.2)) I hk2)with I2 hm;refine aw ?_;show dl _ _ _ _ _
    refine bN (η':=([("objects",.val (.dS objs)),("first",.val (.str x)),("order",.val (.loc ao)),("states",.val (.loc sd)),("stack",.val (.loc st)),("made",.un),("turn",.un),("name",.un),("key",.un),("below",.un),("found_object",.glb),("len",.glb),("LoadError",.glb)]:aI)) (aC.weak (by fail "d")) ?_;refine⟨_,hm,(a1,x1,k1+1)::fs,Sd1,o1,I2,?_,rfl,rfl,?_⟩
    ·erw[←hunw,gl O hy1,if_pos hyo];rfl
    ·erw[kT];rfl
   ·refine aG (by erw[beq_iff_eq];exact hw2.mpr hyo) ?_;injection (fy.push (fr:=fs.map (fun U=>U.2)) I hk2 hy1 hy2 (by erw[hgy,if_neg hyo]))with I2 hm;fail "w";refine' aU ?_;refine' f0 (.there (fK.app (.there .here) _)) ?_ (by omega);refine' ap ?_;refine' aH slot_list_append (by rfl) rfl (aM.loc (.there (At.app .here _))) ?_;refine' b8 ?_;refine⟨by fail "g",?_⟩;delta b;fail "w";refine am (.there (.there (fK.app .here _))) (by simp[y7];exact Bn hs3 hfew) ?_;show dl _ _ _ _ _
    refine aw ?_;show dl _ _ _ _ _
    refine bN (η':=([("objects",.val (.dS objs)),("first",.val (.str x)),("order",.val (.loc ao)),("states",.val (.loc sd)),("stack",.val (.loc st)),("made",.un),("turn",.un),("name",.un),("key",.un),("below",.un),("found_object",.glb),("len",.glb),("LoadError",.glb)]:aI)) (aC.weak (by fail "d")) ?_;refine⟨_,hm,(b,y,0)::(a1,x1,k1+1)::fs,_,o1,I2,?_,rfl,rfl,?_⟩
    ·erw[←hunw,gl O hy1,if_neg hyo];rfl
    ·erw[kT,kT];rfl
end
section
variable (C:kq) {n:Nat} {σ:aj} {Q:V→aj→Prop}
include C
theorem lJ {F:bz} {objs:List (Str×V)} (O:F.Ok objs) {ms:List Str} (hm:∀x∈ms,x∈F.names)
 (q:(ms.foldl (fun a y=>F.need y a) []).Nodup→(∀x∈ms.foldl (fun a y=>F.need y a) [],x∈F.names)→Q (.lst ((ms.foldl (fun a y=>F.need y a) []).map V.str)) σ):TF (n+3) 211 [.dS objs,.lst (ms.map V.str)] σ Q:=by
 delta C n σ Q F objs O ms hm q at ⊢;have hK:=C.hK
 refine cU (aW (by erw[hK];rfl) rfl rfl (by erw[hK];nofun) (by nofun) (by nofun) (pn fun U U=>rfl) ?_);delta c;fail "j";fail "w";refine' b8 ?_;refine⟨by fail "g",?_⟩;delta ao;fail "w";refine gC ?_;delta sd;fail "w";refine' aO (fun i σ'=>∃Sd,fy F Sd [] ((ms.take i).foldl (fun a y=>F.need y a) [])∧σ'=(sd,.dS Sd)::(ao,.lst (((ms.take i).foldl (fun a y=>F.need y a) []).map V.str))::σ) ?_;refine⟨trivial,_,.lst,⟨[],?_,?_⟩,?_,?_⟩
 ·erw[List.take_zero];exact⟨fun y=>by simp[bJ,b0],by simp,by simp,by simp,by simp,by simp,by simp,by simp,by simp⟩
 ·erw[List.take_zero];rfl
 ·delta i v σ' hv;intro z522;injection z522 with Sd I rfl;rw[List.getElem?_map,Option.map_eq_some_iff]at hv;injection hv with x hj rfl;have hx:=hm x (List.mem_of_getElem? hj)
  have ht:ms.take (i+1)=ms.take i++[x]:=by erw[List.take_add_one,hj];rfl
  erw[ht,List.foldl_append,List.foldl_cons,List.foldl_nil];generalize (ms.take i).foldl (fun a y=>F.need y a) []=o at I;have hg:=I.get x
  rw[List.map_nil,if_neg (by simp)]at hg;fail "w";refine' ap ?_;refine' ji PySem.F.slot_dict_get (by rfl) PySem.F.plainAttrs_dict rfl (by fail "c") (.inl ⟨_,rfl⟩) ?_;refine mI (by fail "c") ?_;by_cases ho:x∈o
  ·erw[hg,if_pos ho];dsimp only[Option.getD];fail "w";refine ak (by decide) ?_;fail "f";refine⟨by fail "d",Sd,?_,?_⟩
   ·erw[gl O hx,if_pos ho];exact I
   ·erw[gl O hx,if_pos ho]
  ·erw[hg,if_neg ho];dsimp only[Option.getD];fail "w";refine' aG (by decide) ?_;refine' aa (by fail "a") C.g_visit ?_;refine aJ (zO C O hx ho I ?_);delta Sd' I';fail "f";exact⟨by fail "d",Sd',I',rfl⟩
 ·delta σ';intro z527;injection z527 with Sd I rfl;rw[List.length_map,List.take_length]at *;fail "w";exact⟨_,σ,ay.trans (ay.drop (List.Sublist.cons _ (List.Sublist.refl _))) (ay.lst .here),q I.ond I.osub⟩
end
def c9:List (Str×RO)→Str→Nat
 | [],_=>0
 | (y,R)::r,x=>if y=x then 0 else R.ar.length+c9 r x
theorem tW {x:Str}:c9 [] x=0:=rfl
theorem gu {y x:Str} {R:RO} {r:List (Str×RO)}:c9 ((y,R)::r) x=if y=x then 0 else R.ar.length+c9 r x:=rfl
def gV:List (Str×RO)→Str→Int
 | [],_=>0
 | (y,R)::r,x=>if y=x then 0 else rn R.size+gV r x
theorem CO {x:Str}:gV [] x=0:=rfl
theorem oj {y x:Str} {R:RO} {r:List (Str×RO)}:gV ((y,R)::r) x=if y=x then 0 else rn R.size+gV r x:=rfl
theorem jD:∀{ms:List (Str×RO)} {x:Str} {c:Nat} {d:Int},x∈ms.map (fun U=>U.1)→aB ((bK ms c d).map m8) x=some (.int ((c+c9 ms x:Nat)))
 | [],_,_,_,h=>by cases h
 | (y,R)::r,x,c,d,h=>by
  erw[di,List.map_cons];show aB ((y,V.int (c:Nat))::_) x=_
  erw[b0,gu];by_cases e:y=x
  ·erw[if_pos e,if_pos e];rfl
  ·erw[if_neg e,if_neg e,jD (by rw[List.map_cons,List.mem_cons]at h;exact h.resolve_left fun q=>e q.symm),Nat.add_assoc]
theorem qf:∀{ms:List (Str×RO)} {x:Str} {c:Nat} {d:Int},x∈ms.map (fun U=>U.1)→aB ((bK ms c d).map kW) x=some (.int (d+gV ms x))
 | [],_,_,_,h=>by cases h
 | (y,R)::r,x,c,d,h=>by
  erw[di,List.map_cons];show aB ((y,V.int d)::_) x=_
  erw[b0,oj];by_cases e:y=x
  ·erw[if_pos e,if_pos e];simp
  ·erw[if_neg e,if_neg e,qf (by rw[List.map_cons,List.mem_cons]at h;exact h.resolve_left fun q=>e q.symm),Int.add_assoc]
def w5 (F:bz) (ms:List (Str×RO)) (R:RO) (m w:Nat):Nat:=match R.imps[m-1]? with
 | some (x,_)=>c9 ms x+((F.R x).ents[w-1]?).getD 0
 | none=>0
def qn (R:RO):Int:=(R.words.headD (0,0)).2
def dc (F:bz) (ms:List (Str×RO)) (J:JO) (p:Str×RO):JO:={ J with ar:=J.ar++oO J.ar.length (gV ms p.1) (w5 F ms p.2) p.2.ar 0,words:=J.words++[(gV ms p.1+0,qn p.2)] }
def p9:List (Str×Nat)→Str→Nat→List (Str×Nat)
 | [],x,v=>[(x,v)]
 | (k,u)::r,x,v=>if k=x then(k,v)::r else(k,u)::p9 r x v
theorem xl {x:Str} {v:Nat}:p9 [] x v=[(x,v)]:=rfl
theorem jm {k x:Str} {u v:Nat} {r:List (Str×Nat)}:p9 ((k,u)::r) x v=if k=x then(k,v)::r else(k,u)::p9 r x v:=rfl
theorem uC:∀{l:List (Str×Nat)} {x:Str} {v:Nat},bj (l.map cC) x (.int (v:Nat))=(p9 l x v).map cC
 | [],_,_=>rfl
 | (k,u)::r,x,v=>by
  erw[jm,List.map_cons];show bj ((k,V.int (u:Nat))::_) x _=_
  erw[bn];split
  ·rfl
  ·erw[uC];rfl
theorem rT:∀(l:List (Str×Nat)) (x:Str) (v:Nat),(p9 l x v).length≤l.length+1
 | [],_,_=>by simp[xl,jm]
 | (k,u)::r,x,v=>by
  erw[jm];split
  ·simp
  ·have:=rT r x v;simp;omega
def vk (R:RO) (y:Str):Nat:=match aB (R.cmds.map cC) y with
 | some (.int j)=>j.toNat
 | _=>0
def l8 (w:Str×Str):Str:=w.1++"_"++w.2
def ee (F:bz) (ms:List (Str×RO)) (cs:List (Str×Nat)) (w:Str×Str):List (Str×Nat):=p9 cs (l8 w) (c9 ms w.1+vk (F.R w.1) w.2)
def d3 (nm:Str) (ms:List (Str×RO)):JO:={ name:=nm,key:=0,size:=cI ms,words:=[],ar:=[],cmds:=[],body:=0 }
def kR (F:bz) (ms:List (Str×RO)) (wanted:List (Str×Str)) (nm:Str):JO:={ ms.foldl (dc F ms) (d3 nm ms)with cmds:=wanted.foldl (ee F ms) [] }
def sy (F:bz) (ms:List (Str×RO)) (wanted:List (Str×Str)) (nm:Str):JO:=(kR F ms wanted nm).withBody (ms.map fun p=>c9 ms p.1+p.2.body)
def bz.ms (F:bz) (xs:List Str):List (Str×RO):=(xs.foldl (fun a y=>F.need y a) []).map fun x=>(x,F.R x)
def pA (w:Str×Str):V:=.tup [.str w.1,.str w.2]
structure bz.Lk (F:bz):Prop where
 rows:∀x∈F.names,(F.R x).ar.length≤40
 size:∀x∈F.names,0≤(F.R x).size∧(F.R x).size≤1000
 words:∀x∈F.names,∃w,w≠0∧(F.R x).words=[(0,w)]
 calls:∀x∈F.names,∀j m w,(j,RF.call m w)∈bm (F.R x).ar 0→∃m' w' y key jj,m=m'+1∧w=w'+1∧(F.R x).imps[m']?=some (y,key)∧(F.R y).ents[w']?=some jj∧m'<1000∧w'<1000
 bl:∀x∈F.names,∀a∈(F.R x).ar,∀m w,a.fx=some (.call m w)→a.ins.isBL=true
 mp:∀x∈F.names,∀p∈bx (F.R x).ar 0,p.2.length≤1000
 few:F.names.length≤10
def jg (F:bz) (o:List Str):Prop:=∀z∈o,∀y∈F.imp z,y∈o
section
variable {F:bz} {objs:List (Str×V)} (O:F.Ok objs)
include O
theorem j7 {k:Nat} (h:∀(x:Str) (o:List Str),F.rank x<k→x∈F.names→jg F o→jg F (F.need x o)∧(∀z∈o,z∈F.need x o)∧x∈F.need x o):
 ∀(l:List Str) (o:List Str),(∀x∈l,F.rank x<k∧x∈F.names)→jg F o→jg F (l.foldl (fun a y=>F.need y a) o)∧(∀z∈o,z∈l.foldl (fun a y=>F.need y a) o)∧∀z∈l,z∈l.foldl (fun a y=>F.need y a) o
 | [],o,_,hc=>⟨hc,fun z hz=>hz,fun z hz=>by cases hz⟩
 | x::r,o,hl,hc=>by
  obtain⟨h1,h2,h3⟩:=h x o (hl x (.head _)).1 (hl x (.head _)).2 hc;obtain⟨h4,h5,h6⟩:=j7 h r (F.need x o) (fun y hy=>hl y (.tail _ hy)) h1;erw[List.foldl_cons];refine⟨h4,fun z hz=>h5 z (h2 z hz),fun z hz=>?_⟩;cases hz with
  | head=>exact h5 x h3
  | tail _ hz=>exact h6 z hz
theorem lT:∀(k:Nat) (x:Str) (o:List Str),F.rank x<k→x∈F.names→jg F o→jg F (F.need x o)∧(∀z∈o,z∈F.need x o)∧x∈F.need x o
 | 0,_,_,h,_,_=>by omega
 | k+1,x,o,hr,hx,hc=>by
  erw[gl O hx];by_cases ho:x∈o
  ·erw[if_pos ho];exact⟨hc,fun z hz=>hz,ho⟩
  ·erw[if_neg ho];obtain⟨h1,h2,h3⟩:=j7 O (lT k) (F.imp x) o (fun y hy=>⟨by have:=(ec O hx hy).2;exact s8 this hr,(ec O hx hy).1⟩) hc;refine⟨fun z hz y hy=>?_,fun z hz=>List.mem_append.mpr (.inl (h2 z hz)),by simp⟩;rw[List.mem_append,List.mem_singleton]at hz;rcases hz with hz|rfl
   ·exact List.mem_append.mpr (.inl (h1 z hz y hy))
   ·exact List.mem_append.mpr (.inl (h3 y hy))
theorem kH (xs:List Str) (h:∀x∈xs,x∈F.names):jg F (xs.foldl (fun a y=>F.need y a) [])∧∀z∈xs,z∈xs.foldl (fun a y=>F.need y a) []:=by
 have hk:∀l:List Str,∃k,∀x∈l,F.rank x<k:=fun l=>by
  induction l with
  | nil=>exact⟨0,fun x hx=>by cases hx⟩
  | cons y r ih=>
   obtain⟨k,hk⟩:=ih;refine⟨k+F.rank y+1,fun x hx=>?_⟩;cases hx with
   | head=>exact HN
   | tail _ hx=>have:=hk x hx;exact HM this
 obtain⟨k,hk⟩:=hk xs;have:=j7 O (lT O k) xs [] (fun x hx=>⟨hk x hx,h x hx⟩) (fun z hz=>by cases hz)
 exact⟨this.1,this.2.2⟩
end
theorem bW {α:Type} (l:List α):l.filter (fun U=>true)=l:=List.filter_eq_self.mpr fun U U=>rfl
theorem lM {d:Ad} {J:JO} {σ:aj} {a:Addr} {k:bp} (h:At σ a k):At (er d J σ) a k:=.there (.there (.there (.there (.there (.there (.there (.there (.there (.there (.there h))))))))))
theorem Cs {d:Ad} {J:JO} {σ:aj}:ay (.loc d.x) (er d J σ) J.v σ:=by
 unfold JO.v;erw[JO.kvs_eq];exact ay.trans (ay.frz (gd.dS (a:=d.cm) .here) (aR.cons bf.refl (aR.cons bf.refl (aR.cons bf.refl (aR.cons bf.refl (aR.cons bf.refl (aR.cons bf.refl (aR.cons bf.refl (aR.cons bf.refl (aR.cons bf.refl (aR.cons (bf.dS (iN (v11:=.none))) aR.refl)))))))))) .refl) (ay.trans (ay.frz (gd.dI (a:=d.mp) .here) (aR.cons bf.refl (aR.cons bf.refl (aR.cons bf.refl (aR.cons bf.refl (aR.cons bf.refl (aR.cons bf.refl (aR.cons bf.refl (aR.cons bf.refl (aR.cons (bf.dS (uF (v10:=.none))) aR.refl))))))))) .refl) (ay.trans (ay.frz (gd.lst (a:=d.po) .here) (aR.cons bf.refl (aR.cons bf.refl (aR.cons bf.refl (aR.cons bf.refl (aR.cons bf.refl (aR.cons bf.refl (aR.cons bf.refl (aR.cons (bf.dS (lR (v9:=.none))) aR.refl)))))))) .refl) (ay.trans (ay.frz (gd.lst (a:=d.en) .here) (aR.cons bf.refl (aR.cons bf.refl (aR.cons bf.refl (aR.cons bf.refl (aR.cons bf.refl (aR.cons bf.refl (aR.cons (bf.dS (k8 (v8:=.none))) aR.refl))))))) .refl) (ay.trans (ay.frz (gd.lst (a:=d.fx) .here) (aR.cons bf.refl (aR.cons bf.refl (aR.cons bf.refl (aR.cons bf.refl (aR.cons bf.refl (aR.cons (bf.dS (lr (v7:=.none))) aR.refl)))))) .refl) (ay.trans (ay.frz (gd.lst (a:=d.df) .here) (aR.cons bf.refl (aR.cons bf.refl (aR.cons bf.refl (aR.cons bf.refl (aR.cons (bf.dS (iM (v6:=.none))) aR.refl))))) .refl) (ay.trans (ay.frz (gd.lst (a:=d.wo) .here) (aR.cons bf.refl (aR.cons bf.refl (aR.cons bf.refl (aR.cons (bf.dS (xm (v5:=.none))) aR.refl)))) .refl) (ay.trans (ay.frz (gd.lst (a:=d.ro) .here) (aR.cons bf.refl (aR.cons bf.refl (aR.cons (bf.dS (uE (v3:=.none))) aR.refl))) .refl) (ay.trans (ay.frz (gd.lst (a:=d.im) .here) (aR.cons bf.refl (aR.cons (bf.dS (tz (v2:=.none))) aR.refl)) .refl) (ay.obj .here .here)))))))))
theorem jy (F:bz) (ms:List (Str×RO)):∀(l:List (Str×RO)) (J:JO),(l.foldl (dc F ms) J).ar.length=J.ar.length+cD l∧(l.foldl (dc F ms) J).words.length=J.words.length+l.length∧(l.foldl (dc F ms) J).cmds=J.cmds∧(l.foldl (dc F ms) J).body=J.body∧(l.foldl (dc F ms) J).size=J.size∧(l.foldl (dc F ms) J).name=J.name∧(l.foldl (dc F ms) J).key=J.key
 | [],J=>by simp[cD]
 | p::r,J=>by
  erw[List.foldl_cons];obtain⟨h1,h2,h3,h4,h5,h6,h7⟩:=jy F ms r (dc F ms J p);refine⟨?_,?_,h3,h4,h5,h6,h7⟩
  ·erw[h1];simp[dc,cD,mu];exact HL
  ·erw[h2];simp[dc];exact vV
theorem k7:∀{l:List (Str×RO)},(∀p∈l,p.2.ar.length≤40)→cD l≤40*l.length
 | [],_=>by simp[cD]
 | p::r,h=>by
  have h1:=h p (.head _)
  have h2:=k7 (l:=r) fun p hp=>h p (.tail _ hp)
  simp only[cD,List.map_cons,List.sum_cons,List.length_cons] at h2 ⊢;exact HK h1 h2
theorem oH (F:bz) (ms:List (Str×RO)):∀(l:List (Str×Str)) (cs:List (Str×Nat)),(l.foldl (ee F ms) cs).length≤cs.length+l.length
 | [],_=>by simp
 | w::r,cs=>by
  erw[List.foldl_cons];have h1:=oH F ms r (ee F ms cs w)
  have h2:=rT cs (l8 w) (c9 ms w.1+vk (F.R w.1) w.2)
  simp only[List.length_cons];unfold ee at h1 ⊢;exact Cf h1 h2
section
variable (C:kq) {n:Nat} {σ:aj} {Q:V→aj→Prop}
include C
theorem CD {F:bz} {objs:List (Str×V)} (O:F.Ok objs) (L:F.Lk) {wanted:List (Str×Str)} {nm:Str} (hw:∀w∈wanted,w.1∈F.names∧(∃j:Nat,aB ((F.R w.1).cmds.map cC) w.2=some (.int (j:Nat)))∧w.1.length+w.2.length≤1000) (hwl:wanted.length≤50)
 (W:wD (sy F (F.ms (wanted.map (fun U=>U.1))) wanted nm)) (q:∀J',iw (sy F (F.ms (wanted.map (fun U=>U.1))) wanted nm) J'→Q J'.v σ):TF (n+12) 300 [.dS objs,.lst (wanted.map pA),.str nm] σ Q:=by
 delta C n σ Q F objs O L wanted nm hw hwl W q at ⊢;have hK:=C.hK
 refine cU (aW (by erw[hK];rfl) rfl rfl (by erw[hK];nofun) (by nofun) (by nofun) (md fun U U U=>rfl) ?_);delta c;fail "j";fail "w";refine' aa (by fail "a") C.g_needed_modules ?_;refine bA ?_;refine eW (ηk:=[(".0",.un),("module",.un),("command",.un)]) (by fail "n") (cB.pure wanted pA (fun w=>V.str w.1) (fun U=>true) ?iter (by omega) ?turn ?fin)
 case iter=>
  fail "w";exact⟨trivial,.lst,rfl⟩
 case turn=>
  delta i w;intro _;unfold pA;fail "w";refine' ⟨by fail "d",rfl,?_⟩;exact⟨rfl,rfl⟩
 delta a;refine⟨_,_,ay.lst .here,?_⟩;erw[bW];fail "w";have e0:wanted.map (fun w=>V.str w.1)=(wanted.map (fun U=>U.1)).map V.str:=by erw[List.map_map];rfl
 erw[e0]
 have hxs:∀x∈wanted.map (fun U=>U.1),x∈F.names:=fun x hx=>by
  obtain⟨w,h,rfl⟩:=List.mem_map.mp hx;exact(hw w h).1
 injection (kH O (wanted.map (fun U=>U.1)) hxs) with hcl hin;refine aJ (TF.up (m:=n+3) (lJ C O hxs ?_) (by exact HJ));delta hnd hsub;have hms:F.ms (wanted.map (fun U=>U.1))=((wanted.map (fun U=>U.1)).foldl (fun a y=>F.need y a) []).map fun x=>(x,F.R x):=rfl
 generalize (wanted.map (fun U=>U.1)).foldl (fun a y=>F.need y a) []=xs at hcl hin hnd hsub hms;generalize F.ms (wanted.map (fun U=>U.1))=ms at hms W q;have hmk:ms.map (fun U=>U.1)=xs:=by erw[hms,List.map_map];exact List.map_id' _
 have hmv:xs.map V.str=ms.map fun p=>V.str p.1:=by erw[←hmk,List.map_map];rfl
 have hmm:∀p∈ms,p.1∈F.names∧p.2=F.R p.1:=fun p hp=>by
  rw[hms] at hp;obtain⟨x,hx,rfl⟩:=List.mem_map.mp hp;exact⟨hsub x hx,rfl⟩
 have hml:ms.length≤10:=by
  have h1:=ei hnd hsub
  have h2:=congrArg List.length hmk
  rw[List.length_map] at h2;have:=L.few
  exact HI h2 h1 this
 erw[hmv];fail "w";refine' bA (aa (by fail "a") C.g_Bases ?_)
 refine aJ (TF.up (m:=n+2) (ml (fI:=246) (by erw[hK];nofun) (by erw[hK];nofun) (by erw[hK];nofun) fun x dx=>
  rj C (fun p hp=>by erw[(hmm p hp).2];exact O.obj _ (hmm p hp).1) (by erw[hmk];exact hnd) (by omega) (fun p hp=>by erw[(hmm p hp).2];have:=L.rows _ (hmm p hp).1;omega)
   (fun p hp=>by erw[(hmm p hp).2];exact L.size _ (hmm p hp).1) fun cd da=>⟨rfl,?_⟩) (by exact z7))
 refine⟨yl objs ms,(c,.cell (.dS objs))::(c+1,.cellU)::σ,ay.trans (ay.frz (gd.dS (a:=cd) (by fail "l")) (aR.cons bf.refl (aR.cons bf.refl (aR.cons (bf.dS (yT (u1:=.none))) aR.refl))) .refl)
  (ay.trans (ay.frz (gd.dS (a:=da) (by fail "l")) (aR.cons bf.refl (aR.cons (bf.dS (yS (u2:=.none))) aR.refl)) .refl) (ay.obj (by fail "l") (by fail "l"))),?_⟩
 refine' qs (by fail "a") (by fail "b") (.inl rfl) ?_;refine' aa (by fail "a") C.g_ObjectFile ?_;refine aJ (TF.up (m:=n+2) (ml (fI:=80) (by erw[hK];nofun) (by erw[hK];nofun) (by erw[hK];nofun) ?_) (by exact z7));delta x dx;refine ub C ?_;delta im ro wo df fx en po mp cm;refine⟨rfl,?_⟩;unfold uN;fail "w";unfold yl;fail "v";fail "p";generalize hs0:((c,bp.cell (.dS objs))::(c+1,bp.cell (.obj 256 (kt (.dS objs) (.dS ((bK ms 0 0).map m8)) (.dS ((bK ms 0 0).map kW)) (.int (cD ms:Nat)) (.int (cI ms)))))::σ:aj)=σ0;have at1:At σ0 c (.cell (.dS objs)):=by erw[←hs0];exact .here
 have at2:At σ0 (c+1) (.cell (.obj 256 (kt (.dS objs) (.dS ((bK ms 0 0).map m8)) (.dS ((bK ms 0 0).map kW)) (.int (cD ms:Nat)) (.int (cI ms))))):=by erw[←hs0];exact .there .here
 have hsub0:List.Sublist σ σ0:=by erw[←hs0];exact .cons _ (.cons _ (.refl _))
 clear hs0;fail "w";refine' aO (fun i σ'=>σ'=er ⟨x,dx,im,ro,wo,df,fx,en,po,mp,cm⟩ ((ms.take i).foldl (dc F ms) (d3 nm ms)) σ0) ?_;refine⟨trivial,_,.lst,?_,?_,?_⟩
 ·erw[List.take_zero];rfl
 ·delta i v σ' hv;intro z530;first|subst z530|cases z530
  rw[List.getElem?_map,Option.map_eq_some_iff] at hv;injection hv with p hj rfl;have hp:=List.mem_of_getElem? hj
  injection (hmm p hp) with hp1 hp2;obtain⟨y,R⟩:=p;delta y R at *;try dsimp only at hp1 hp2
  subst hp2;have ht:ms.take (i+1)=ms.take i++[(y,F.R y)]:=by erw[List.take_add_one,hj];rfl
  obtain⟨hl1,hl2,-⟩:=jy F ms (ms.take i) (d3 nm ms);delta hl1 hl2 at *;have hl3:=k7 (l:=ms.take i) fun p hp=>by have:=hmm p (List.mem_of_mem_take hp);erw[this.2];exact L.rows _ this.1
  have hl4:=List.length_take_le' i ms
  erw[ht,List.foldl_append,List.foldl_cons,List.foldl_nil];generalize (ms.take i).foldl (dc F ms) (d3 nm ms)=J at hl1 hl2;have hl5:J.ar.length≤400:=by erw[hl1];simp only[d3,List.length_nil];exact HG hl3 hl4 hml
  have hl6:J.words.length≤10:=by erw[hl2];simp only[d3,List.length_nil];exact HF hl4 hml
  have hyk:y∈ms.map (fun U=>U.1):=List.mem_map.mpr ⟨_,hp,rfl⟩
  have hdat:aB ((bK ms 0 0).map kW) (F.R y).name=some (.int (gV ms y)):=by erw[O.name y hp1,qf hyk,Int.zero_add]
  injection (L.words y hp1) with w hw0 hwd;fail "w";refine' aa (by fail "a") C.g_join_rows ?_;refine' bw (by fail "a") (lM at1) ?_;refine' bo .dS (O.obj y hp1) ?_;refine' bw (by fail "a") (lM at2) ?_;refine aJ (TF.up (m:=n+2) (sS C (d:=⟨x,dx,im,ro,wo,df,fx,en,po,mp,cm⟩) (J:=J) (R:=F.R y) (dat:=gV ms y) (pl:=w5 F ms (F.R y)) hdat (by omega) (by have:=L.rows y hp1;omega) ?_ (L.bl y hp1) (L.mp y hp1) ?_) (by exact z7))
  ·delta j m w hjm;injection (L.calls y hp1 j m w hjm) with m' w' z key jj rfl rfl h1 h2 h3 h4;have hzi:z∈F.imp y:=List.mem_map.mpr ⟨_,List.mem_of_getElem? h1,rfl⟩
   have hzx:z∈ms.map (fun U=>U.1):=by erw[hmk];exact hcl y (by erw[←hmk];exact hyk) z hzi
   refine⟨m',w',z,key,F.R z,jj,c9 ms z,rfl,rfl,h1,O.obj z (ec O hp1 hzi).1,h2,?_,h3,h4,?_⟩
   ·erw[jD hzx,Nat.zero_add]
   ·unfold w5;erw[Nat.add_sub_cancel,Nat.add_sub_cancel,h1];dsimp only;erw[h2];rfl
  fail "w";refine' aa (by fail "a") C.g_join_data ?_;refine' bw (by fail "a") (lM at1) ?_;refine' bo .dS (O.obj y hp1) ?_;refine' bw (by fail "a") (lM at2) ?_;refine aJ (TF.up (m:=n+1) (sT C (d:=⟨x,dx,im,ro,wo,df,fx,en,po,mp,cm⟩) (R:=F.R y) (st:=gV ms y) (w:=w) hdat hwd hw0 (by dsimp only;omega) ?_) (by exact Bm));fail "f";refine⟨by fail "d",?_⟩;unfold dc qn;erw[hwd];rfl
 delta σ';intro z545;first|subst z545|cases z545
 erw[List.length_map,List.take_length];fail "w";refine' aO (fun i σ'=>σ'=er ⟨x,dx,im,ro,wo,df,fx,en,po,mp,cm⟩ { ms.foldl (dc F ms) (d3 nm ms) with cmds:=(wanted.take i).foldl (ee F ms) [] } σ0) ?_;refine⟨trivial,_,.lst,?_,?_,?_⟩
 ·erw[List.take_zero];obtain⟨-,-,h3,-⟩:=jy F ms ms (d3 nm ms);delta h3 at *;generalize ms.foldl (dc F ms) (d3 nm ms)=J at h3;obtain⟨_,_,_,_,_,cs,_⟩:=J;delta cs at *;dsimp only at h3;erw[h3];rfl
 ·delta i v σ' hv;intro z557;first|subst z557|cases z557
  rw[List.getElem?_map,Option.map_eq_some_iff] at hv;injection hv with w hj rfl;have ht:wanted.take (i+1)=wanted.take i++[w]:=by erw[List.take_add_one,hj];rfl
  injection (hw w (List.mem_of_getElem? hj)) with hw1 y'1 hw3;injection y'1 with j hw2;have hcl1:=oH F ms (wanted.take i) []
  have hcl2:=List.length_take_le' i wanted
  simp only[List.length_nil] at hcl1;have hwk:w.1∈ms.map (fun U=>U.1):=by erw[hmk];exact hin _ (List.mem_map.mpr ⟨w,List.mem_of_getElem? hj,rfl⟩)
  have hlast:(wanted.take (i+1)).foldl (ee F ms) []=p9 ((wanted.take i).foldl (ee F ms) []) (l8 w) (c9 ms w.1+j):=by
   erw[ht,List.foldl_append,List.foldl_cons,List.foldl_nil];unfold ee;unfold vk;erw[hw2];rfl
  erw[hlast];generalize (wanted.take i).foldl (ee F ms) []=cs at hcl1;obtain⟨m,cmd⟩:=w;delta m cmd at *;try dsimp only at hw1 hw2 hw3 hwk
  show TA _ _ (.tup [.str m,.str cmd]) _ _ _
  fail "w";refine' aa (by fail "a") C.g_row_of_command ?_;refine' bw (by fail "a") (lM at1) ?_;refine' aJ (TF.up (m:=n+2) (lI C (O.obj m hw1) hw2 ?_) (by exact z7));refine dq ?_;refine bw (by fail "a") (lM at2) ?_;refine' eB jx (iO C) ?_;refine' bo .dS (jD hwk) ?_;refine aU ?_;unfold er fe;fail "k";fail "w";have hsz:sizeLine≥100000:=by erw[sizeLine_eq];decide
  have h1l:Str.length "_" = 1:=by decide
  refine' iJ ?_ (by exact DP h1l hsz hw3);refine iJ ?_ (by erw[PySem.Str.length_append];exact DO h1l hsz hw3);refine f0 (by fail "b") ?_ (by show(cs.map cC).length≤10000;erw[List.length_map];exact HE hcl1 hcl2 hwl);fail "f";refine⟨by fail "d",?_⟩
  have hkk:bj (cs.map cC) (m++"_"++cmd) (.int (((0+c9 ms m:Nat):Int)+(j:Nat)))=(p9 cs (l8 (m,cmd)) (c9 ms m+j)).map cC:=by
   erw[←uC,Nat.zero_add];rfl
  dsimp only;erw[hkk];rfl
 delta σ';intro z562;first|subst z562|cases z562
 erw[List.length_map,List.take_length];fail "w";have hJ:{ ms.foldl (dc F ms) (d3 nm ms) with cmds:=wanted.foldl (ee F ms) [] }=kR F ms wanted nm:=rfl
 erw[hJ]
 have hJl:(kR F ms wanted nm).ar.length≤400:=by
  obtain⟨hl1,-⟩:=jy F ms ms (d3 nm ms);have hl3:=k7 (l:=ms) fun p hp=>by have:=hmm p hp;erw[this.2];exact L.rows _ this.1
  show(ms.foldl (dc F ms) (d3 nm ms)).ar.length≤400
  erw[hl1];simp only[d3,List.length_nil];exact HD hl3 hml
 unfold sy at W q;generalize kR F ms wanted nm=J at hJl W q;refine' aa (by fail "a") C.g_join_body ?_;refine bA ?_;refine eW (ηk:=[(".0",.un),("module",.un),("bases",.cel (c+1)),("objects",.cel c)]) (by fail "n") (cB.pure ms (fun p=>V.str p.1) (fun p=>V.int ((c9 ms p.1+p.2.body:Nat))) (fun U=>true) ?iter2 (by omega) ?turn2 ?fin2)
 case iter2=>
  fail "w";exact⟨trivial,.lst,rfl⟩
 case turn2=>
  delta i p hp;have hpm:=List.mem_of_getElem? hp
  injection (hmm p hpm) with hp1 hp2;have hyk:p.1∈ms.map (fun U=>U.1):=List.mem_map.mpr ⟨_,hpm,rfl⟩
  fail "w";refine' ⟨by fail "d",rfl,?_⟩;refine dq ?_;refine bw (by fail "a") (lM at2) ?_;refine' eB jx (iO C) ?_;refine bo .dS (jD hyk) ?_;refine' dq ?_;refine' bw (by fail "a") (lM at1) ?_;refine bo .dS (O.obj _ hp1) ?_;erw[←hp2];refine' eB (RO.g_body _) (kF C) ?_;refine⟨?_,rfl⟩;erw[Nat.zero_add];rfl
 delta a2;refine⟨_,_,ay.lst .here,?_⟩;erw[bW];fail "w";have hbs:ms.map (fun p=>V.int ((c9 ms p.1+p.2.body:Nat)))=(ms.map fun p=>c9 ms p.1+p.2.body).map fun j=>V.int (j:Nat):=by erw[List.map_map];rfl
 erw[hbs];refine' aJ (TF.up (m:=n+1) (sU C (d:=⟨x,dx,im,ro,wo,df,fx,en,po,mp,cm⟩) (by omega) (by erw[List.length_map];omega) ?_) (by exact Bm));refine aa (by fail "a") C.g_shaken ?_;refine' cL (bA ?_);refine' ⟨_,_,Cs (d:=⟨x,dx,im,ro,wo,df,fx,en,po,mp,cm⟩),?_⟩;refine aJ (TF.up (m:=n+10) (yh C W ?_) (by exact HC));delta J' hs;exact⟨_,σ,ay.drop hsub0,q J' hs⟩
end
structure dO where
 p:Addr
 a:Addr
 us:List Int
 x:Int
 z:Int
 deriving Nonempty
def dO.ok (P:dO):Prop:=P.us.length≤63∧0≤P.z∧P.z<2147483647
def dO.st (P:dO) (σ:aj):aj:=(P.p,.lst [.loc P.a,.int P.x,.int P.z])::(P.a,.lst (P.us.map V.int))::σ
section
variable (C:kq) {n:Nat} {σ:aj} {Q:V→aj→Prop}
include C
theorem ua {us:List Int} (hu:us.length≤1000) (q:∀P:dO,P.ok→Q (.loc P.p) (P.st σ)):TF (n+1) 312 [.lst (us.map V.int)] σ Q:=by
 delta C n σ Q us hu q at ⊢;have hK:=C.hK
 refine aW (by erw[hK];rfl) rfl rfl (by erw[hK];nofun) (by nofun) (by nofun) (kO fun U=>rfl) ?_;delta c;fail "j";fail "w";refine cR (ηk:=[(".0",.un),("cell",.un),("int",.glb)]) (by fail "n") (by fail "s") (cB.pure (us.take 63) V.int V.int (fun U=>true) ?iter ?len ?turn ?fin)
 case iter=>
  refine' bA (rE ?_);refine⟨_,63,rfl,.lst,by erw[List.length_map];omega,?_⟩;delta a;refine⟨_,_,ay.lst .here,trivial,?_,rfl⟩;erw[←List.map_take];exact .lst
 case len=>have:=List.length_take_le 63 us;omega
 case turn=>
  delta i u;intro _;fail "w";refine⟨by fail "d",rfl,?_⟩;refine' aa (by fail "a") C.g_int ?_;refine BM ?_;exact⟨rfl,rfl⟩
 delta a;erw[bW];refine' ⟨_,by fail "m",?_⟩;refine' b8 ?_;refine' aa (by fail "a") C.g_sum ?_;refine BK (by fail "c") ?_;delta j;fail "w";refine' ln ?_ (by decide);refine⟨by fail "g",?_⟩;delta p;refine q ⟨p,a,us.take 63,0,j%99991+7⟩ ⟨List.length_take_le 63 us,?_,?_⟩
 ·show 0≤j%99991+7;omega
 ·show j%99991+7<2147483647;omega
theorem fW {P:dO} {lim:Int} (hP:P.ok) (h0:0<lim) (h1:lim<1000) (l:aj) (q:∀P':dO,P'.ok→P'.p=P.p→P'.a=P.a→∀v,0≤v→v<lim→Q (.int v) (l++P'.st σ)):TF (n+1) 307 [.loc P.p,.int lim] (l++P.st σ) Q:=by
 delta C n σ Q P lim hP h0 h1 l q at ⊢;have hK:=C.hK
 refine aW (by erw[hK];rfl) rfl rfl (by erw[hK];nofun) (by nofun) (by nofun) (pn fun U U=>rfl) ?_;delta c;fail "j";unfold dO.st;refine vD (fun σ'=>∃P':dO,P'.ok∧P'.p=P.p∧P'.a=P.a∧σ'=l++P'.st σ) ?_ ?_
 ·fail "w";refine' al (v:=.int P.x) (aM.loc (At.app .here l)) rfl (by omega) (by omega) ?_;refine ek (fun hx=>?_) (fun hx=>?_)
  ·fail "w";refine al (v:=.loc P.a) (aM.loc (At.app .here l)) rfl (by omega) (by omega) ?_;refine' bG ?_;refine⟨by fail "g",?_⟩;refine' C5 (aM.loc (At.app (.there .here) l)) .lst ?_;cases hus:P.us with
   | nil=>
    refine' aG rfl ?_;refine' al (v:=.int P.z) (aM.loc (At.app .here l)) rfl (by omega) (by omega) ?_;refine' gA ?_ ?_;refine ln ?_ (by decide);refine' aU ?_;refine' cb (fK.app .here l) (by omega) (by simp) (by omega) ?_;refine' al (v:=.int ((P.z*16807+13)%2147483647)) (aM.loc (At.app .here l)) rfl (by omega) (by omega) ?_;refine' tv ?_ (by decide) (by decide);refine ln ?_ h0
    exact q ⟨P.p,P.a,[],P.x,(P.z*16807+13)%2147483647⟩ ⟨by simp,by show 0≤(P.z*16807+13)%2147483647;omega,by show(P.z*16807+13)%2147483647<2147483647;omega⟩ rfl rfl
     ((P.z*16807+13)%2147483647/5%lim) (Int.emod_nonneg _ (by exact xq h0)) (Int.emod_lt_of_pos _ h0)
    exact IntMulOk.of_right (by decide +kernel)
   | cons u us=>
    delta u us at *;refine ak rfl ?_;fail "f";fail "w";refine aa (by fail "a") C.g_abs ?_;refine' cL (ap ?_);refine al (v:=.loc P.a) (aM.loc (At.app .here l)) rfl (by omega) (by omega) ?_;refine' aH PySem.F.slot_list_pop (by rfl) rfl (aM.loc (At.app (.there .here) l)) ?_;have hok:=hP
    unfold dO.ok at hok;rw[hus,List.length_cons]at hok;refine' yC (v:=.int u) (vs:=us.map V.int) (fK.app (.there .here) l) (by erw[List.length_map];exact HA hok) ?_;refine' BN ?_;refine' aU ?_;refine cb (fK.app .here l) (by omega) (by simp) (by omega) ?_;fail "f";exact⟨by fail "d",⟨P.p,P.a,us,_,P.z⟩,⟨by show us.length≤63;exact Hz hok,hok.2⟩,rfl,rfl,rfl⟩
  ·fail "f";exact⟨dP.refl _,P,hP,rfl,rfl,rfl⟩
 ·delta σ';intro z563;injection z563 with P' hP' hp1 hp2 rfl;erw[←hp1];unfold dO.st;fail "w";refine' al (v:=.int P'.x) (aM.loc (At.app .here l)) rfl (by omega) (by omega) ?_;refine ek (fun hx=>?_) (fun hx=>?_)
  ·fail "w";refine' tv ?_ h0 (by exact Hy h1);refine' aU ?_;refine' cb (fK.app .here l) (by omega) (by simp) (by omega) ?_;refine ln ?_ h0;exact q ⟨P'.p,P'.a,P'.us,(P'.x-2)/lim+2,P'.z⟩ hP' hp1 hp2 ((P'.x-2)%lim) (Int.emod_nonneg _ (by exact xq h0)) (Int.emod_lt_of_pos _ h0)
  ·fail "w";refine' aU ?_;refine' cb (fK.app .here l) (by omega) (by simp) (by omega) ?_;refine ln ?_ h0;exact q ⟨P'.p,P'.a,P'.us,0,P'.z⟩ hP' hp1 hp2 ((P'.x-2)%lim) (Int.emod_nonneg _ (by exact xq h0)) (Int.emod_lt_of_pos _ h0)
end
theorem Aa {n:Nat} {η:aI} {σ:aj} {Q:V→aj→Prop} {e:Expr} {v:V} (h:TE n e η σ fun u σ'=>u=v∧σ'=σ) (q:Q v σ):TE n e η σ Q:=h.mono fun u σ' h=>by rw[h.1,h.2];exact q
theorem Ab {n:Nat} {η:aI} {σ:aj} {Q:Bool→aj→Prop} {e:Expr} {b:Bool} (h:TB n e η σ fun u σ'=>u=b∧σ'=σ) (q:Q b σ):TB n e η σ Q:=h.mono fun u σ' h=>by rw[h.1,h.2];exact q
theorem ud {prog:Program} {w:World} {A:Around} {E:Value→Shared→Prop} {s:Shared} {env:Env} {value:Expr} {lower upper:Option Expr} {p pos:Pos} {T id:String} {Q:Value→Shared→Prop}
 (hl:typeLookup (.type T) "__getitem__" = pure (some (.builtin id)))
 (h:wpAny (model prog w) A (eval value env) (fun o s₁=>wpAny (model prog w) A (eval (.Slice lower upper none p) env) (fun i s₂=>s₂.TypeIs o T∧wpAny (model prog w) A (getItem o i) Q E s₂) E s₁) E s):
 wpAny (model prog w) A (eval (.Subscript value (.Slice lower upper none p) pos) env) Q E s:=by
 rw[eval_Subscript]
 refine wpAny_bind (wpAny_mono h (fun o s₁ h₁=>wpAny_bind (wpAny_holding (wpAny_mono h₁ (fun i s₂ h₂=>wpAny_bind (wpAny_standAt ?_)) fun U U x=>x))) fun U U x=>x)
 have fin:wpAny (model prog w) A (operate [i,o] (getItem o i)) (fun r s₃=>wpAny (model prog w) A (letTemporaryGo value o r >>= fun U=>pure r) Q E s₃) E s₂:=
  wpAny_operating (wpAny_mono h₂.2 (fun r s₃ h₃=>wpAny_bind (wpAny_letTemporaryGo (wpAny_pure h₃))) fun U U x=>x)
 refine wpAny_bind ?_
 rw[getitemInPython_of_ne h₂.1.not_modules]
 refine wpAny_bind (wpAny_specialOf h₂.1 hl ?_)
 first
  | exact wpAny_pure (wpAny_bind fin)
  | exact wpAny_bind (wpAny_pure (wpAny_bind fin))
  | exact wpAny_bind fin
theorem pH {n:Nat} {η:aI} {σ:aj} {Q:V→aj→Prop} {value upper:Expr} {p pos:Pos} (h:TE n value η σ fun o σ₁=>TE n upper η σ₁ fun i σ₂=>∃vs k,i=.int (k:Nat)∧aM σ₂ o (.lst vs)∧vs.length≤1000000∧∀a,Q (.loc a) ((a,.lst (vs.take k))::σ₂))
 (hp:autoParam (∀env,evalPart (some upper) env=eval upper env) tI) (hn:autoParam (∀env,evalPart none env=pure .none) tI):TE n (.Subscript value (.Slice none (some upper) none p) pos) η σ Q:=fun A B P env s R hA I k=>by
 refine ud slot_list_getitem.lookup (h A B P env s _ hA I fun o σ₁ x s₁ B₁ h₁ H₁ I₁ hx=>?_);refine wpAny_Slice ?_;rw[hn,hp];refine wpAny_pure (h₁ A B₁ P env s₁ _ hA I₁ fun i σ₂ y s₂ B₂ h₂ H₂ I₂ hy=>wpAny_pure ?_);obtain⟨vs,kk,rfl,hv,hz,q⟩:=h₂;obtain⟨oL,I3,back⟩:=I₂.lift;obtain⟨a1,o1,rfl,e1,c1⟩:=I3.view hv (hx.mono H₂);obtain⟨i1,m1,rfl,l1,r1⟩:=c1.isList e1;cases hy with
 | int _ t=>
  have hl:=r1.length
  simp at hl;have I4:=I3.keeps (t:=s₂.toks) (d:=s₂.drawn) (h':=s₂.heap.push { cls:=.type "slice",data:=.fields #[.none,.int (kk:Nat) t,.none] }) fun U U e=>Heap.get?_push_of_some _ e
  refine⟨(l1.push _).typeIs,wpAny_getItem_list_slice (l1.push _) (Heap.IsSliceOf.new ..) .none (.int _ t) .none (by simp) ?_ (by rw[sizeLine_eq];exact xu hl hz)⟩;have I5:=I4.push_sto (o:={ cls:=.type "list",data:=.seq (slicePick i1 none (some ((kk:Nat):Int)) none) }) (c:=.lst (vs.take kk)) rfl ⟨_,_,rfl,by rw[slicePick_upto'];simpa using r1.take kk⟩
  exact k _ _ _ _ B₂ (q _) (H₁.trans H₂) (back _ _ _ (bh.refl _) I5) (.loc _)
def ui.str:ui→Str
 | .own=>"own" | .held=>"held" | .away=>"away"
structure Mod where
 imps:List Nat
 procs:List (List bg)
 deriving Nonempty
abbrev Wd:=List Mod
def nm:Nat→Str
 | 0=>"A" | 1=>"B" | _=>"C"
def m7 (d:bg):V:=.tup [.str d.k.str,.str (nm d.m),.int (d.w:Nat)]
def pN (ds:List bg):V:=.lst (ds.map m7)
def pg (m:Mod):V:=.tup [.lst (m.imps.map fun i=>.str (nm i)),.lst (m.procs.map pN)]
def aL (n:Nat):List Str:=(List.range n).map nm
def L0 (W:Wd) (i:Nat):List (Str×V):=(W.zipIdx i).map fun p=>(nm p.2,pg p.1)
def oN (W:Wd):List (Str×V):=L0 W 0
def ef (W:Wd) (t mz:Nat) (imps:List Nat) (e:Nat) (d:bg):Prop:=
 match d.k with
 | .away=>d.m∈imps∧∃m',W[d.m]?=some m'∧d.w<m'.procs.length
 | _=>d.m=t∧e<d.w∧d.w<mz
structure BI (W:Wd) (t:Nat) (m:Mod):Prop where
 asc:m.imps.Pairwise (·<·)
 imps:∀i∈m.imps,i<t
 pos:1≤m.procs.length
 few:m.procs.length≤3
 short:∀(e:Nat) ds,m.procs[e]?=some ds→ds.length≤if e=0 then 2 else 1
 deeds:∀(e:Nat) ds,m.procs[e]?=some ds→∀d∈ds,ef W t m.procs.length m.imps e d
def dj (W:Wd):Prop:=∀(t:Nat) m,W[t]?=some m→BI W t m
theorem lU {n:Nat} (h:n≤3):(aL n).Nodup:=(by decide +kernel:∀n,n<4→(aL n).Nodup) n (Nat.lt_succ_of_le h)
theorem i9 {a b:Nat} (ha:a<3) (hb:b<3) (h:nm a=nm b):a=b:=(by decide +kernel:∀a,a<3→∀b,b<3→nm a=nm b→a=b) a ha b hb h
theorem rA:∀(W:Wd) (i:Nat),(L0 W i).map (fun U=>U.1)=(List.range' i W.length).map nm
 | [],i=>rfl
 | m::r,i=>by
  show nm i::(L0 r (i+1)).map (fun U=>U.1)=_
  rw[rA r (i+1)];rfl
theorem mC (W:Wd):(oN W).map (fun U=>U.1)=aL W.length:=by
 unfold oN aL;rw[rA,List.range_eq_range']
theorem jh {W:Wd} {t:Nat} {m:Mod} (hW:W.length≤3) (h:W[t]?=some m):aB (oN W) (nm t)=some (pg m):=by
 refine cS (by rw[mC];exact lU hW) ?_;refine List.mem_map.mpr ⟨(m,t),?_,rfl⟩;rw[List.mem_zipIdx_iff_getElem?];exact h
theorem wG {W:Wd} {m:Mod} (hW:W.length<3):bj (oN W) (nm W.length) (pg m)=oN (W++[m]):=by
 rw[ch]
 ·unfold oN L0;rw[List.zipIdx_append,List.map_append];simp
 ·rw[mC];intro h;obtain⟨j,hj,e⟩:=List.mem_map.mp h;rw[List.mem_range]at hj;have:=i9 (by exact Bl hj hW) hW e
  exact z6 hj this
theorem ef.mono {W:Wd} {x:Mod} {t mz:Nat} {imps:List Nat} {e:Nat} {d:bg} (h:ef W t mz imps e d):ef (W++[x]) t mz imps e d:=by
 delta W x t mz imps e d h at ⊢;unfold ef at h ⊢;split at h
 ·obtain⟨h1,m',h2,h3⟩:=h;refine⟨h1,m',?_,h3⟩;rw[List.getElem?_append_left (by rw[List.getElem?_eq_some_iff]at h2;exact h2.1)];exact h2
 ·exact h
set_option tactic.hygienic true in
theorem dj.snoc {W:Wd} {x:Mod} (h:dj W) (hx:BI W W.length x):dj (W++[x]):=by
 delta W x h hx at ⊢;delta t m hm;rw[List.getElem?_append]at hm;split at hm
 ·have:=h t m hm
  exact⟨this.asc,this.imps,this.pos,this.few,this.short,fun e ds h1 d hd=>(this.deeds e ds h1 d hd).mono⟩
 ·rename_i hlt
  have e1:t=W.length:=by
   rw[List.getElem?_eq_some_iff]at hm;obtain⟨h1,_⟩:=hm;simp at h1;exact Hx h1 hlt
  subst e1;simp at hm;subst hm;exact⟨hx.asc,hx.imps,hx.pos,hx.few,hx.short,fun e ds h1 d hd=>(hx.deeds e ds h1 d hd).mono⟩
def ru (pa:Addr) (P:dO):Prop:=P.ok∧P.p=pa
section
variable (C:kq) {n:Nat} {σ:aj} {Q:V→aj→Prop}
include C
theorem vo {P:dO} {pa:Addr} {lim:Int} (hP:ru pa P) (h0:0<lim) (h1:lim<1000) (q:∀(P':dO) (v:Nat),ru pa P'→(v:Int)<lim→Q (.int (v:Nat)) (P'.st σ)):TF (n+1) 307 [.loc pa,.int lim] (P.st σ) Q:=by
 obtain⟨h2,rfl⟩:=hP;refine fW C h2 h0 h1 [] fun P' h3 h4 U v h5 h6=>?_
 obtain⟨k,rfl⟩:=Int.eq_ofNat_of_zero_le h5;exact q P' k ⟨h3,h4⟩ h6
theorem ri {x1:Addr×bp} {P:dO} {pa:Addr} {lim:Int} (hP:ru pa P) (h0:0<lim) (h1:lim<1000) (q:∀(P':dO) (v:Nat),ru pa P'→(v:Int)<lim→Q (.int (v:Nat)) (x1::P'.st σ)):TF (n+1) 307 [.loc pa,.int lim] (x1::P.st σ) Q:=by
 obtain⟨h2,rfl⟩:=hP;refine fW C h2 h0 h1 [x1] fun P' h3 h4 U v h5 h6=>?_
 obtain⟨k,rfl⟩:=Int.eq_ofNat_of_zero_le h5;exact q P' k ⟨h3,h4⟩ h6
theorem vn {x1 x2:Addr×bp} {P:dO} {pa:Addr} {lim:Int} (hP:ru pa P) (h0:0<lim) (h1:lim<1000) (q:∀(P':dO) (v:Nat),ru pa P'→(v:Int)<lim→Q (.int (v:Nat)) (x1::x2::P'.st σ)):TF (n+1) 307 [.loc pa,.int lim] (x1::x2::P.st σ) Q:=by
 obtain⟨h2,rfl⟩:=hP;refine fW C h2 h0 h1 [x1,x2] fun P' h3 h4 U v h5 h6=>?_
 obtain⟨k,rfl⟩:=Int.eq_ofNat_of_zero_le h5;exact q P' k ⟨h3,h4⟩ h6
theorem zT {x1 x2 x3:Addr×bp} {P:dO} {pa:Addr} {lim:Int} (hP:ru pa P) (h0:0<lim) (h1:lim<1000) (q:∀(P':dO) (v:Nat),ru pa P'→(v:Int)<lim→Q (.int (v:Nat)) (x1::x2::x3::P'.st σ)):TF (n+1) 307 [.loc pa,.int lim] (x1::x2::x3::P.st σ) Q:=by
 obtain⟨h2,rfl⟩:=hP;refine fW C h2 h0 h1 [x1,x2,x3] fun P' h3 h4 U v h5 h6=>?_
 obtain⟨k,rfl⟩:=Int.eq_ofNat_of_zero_le h5;exact q P' k ⟨h3,h4⟩ h6
theorem jE {x1 x2 x3 x4:Addr×bp} {P:dO} {pa:Addr} {lim:Int} (hP:ru pa P) (h0:0<lim) (h1:lim<1000) (q:∀(P':dO) (v:Nat),ru pa P'→(v:Int)<lim→Q (.int (v:Nat)) (x1::x2::x3::x4::P'.st σ)):TF (n+1) 307 [.loc pa,.int lim] (x1::x2::x3::x4::P.st σ) Q:=by
 obtain⟨h2,rfl⟩:=hP;refine fW C h2 h0 h1 [x1,x2,x3,x4] fun P' h3 h4 U v h5 h6=>?_
 obtain⟨k,rfl⟩:=Int.eq_ofNat_of_zero_le h5;exact q P' k ⟨h3,h4⟩ h6
set_option tactic.hygienic true in
theorem sP {P:dO} {pa:Addr} (hP:ru pa P) (q:∀(P':dO) (W:Wd),ru pa P'→dj W→1≤W.length→W.length≤3→Q (.tup [.lst ((aL W.length).map V.str),.dS (oN W)]) (P'.st σ)):TF (n+3) 317 [.loc pa] (P.st σ) Q:=by
 delta C n σ Q P pa hP q at ⊢;have hK:=C.hK
 refine cU (aW (by rw[hK];rfl) rfl rfl (by rw[hK];nofun) (by nofun) (by nofun) (kO fun U=>rfl) ?_);delta c;fail "j";fail "w";refine gC ?_;delta wa;refine dr (by fail "m") ?_;show dl _ _ _ _ _
 refine bq (eN ?_);refine bA (pH ?_);refine' bG ?_;refine' ⟨by fail "g",?_⟩;refine' aa (by fail "a") C.g__law_draw ?_;refine aJ (TF.up (m:=n+1) (vn C hP (by decide) (by decide) ?_) (by exact yt));delta P v hP hv;fail "w";refine⟨[.str "A",.str "B",.str "C"],1+v,by rw[Int.natCast_add];rfl,.lst,by decide,?_⟩;delta na;refine⟨_,_,ay.lst .here,?_⟩
 have hnm:[V.str "A",.str "B",.str "C"].take (1+v)=(aL (1+v)).map V.str:=by
  have hv':v<3:=by exact Hw hv
  match v,hv' with
  | 0,_=>rfl
  | 1,_=>rfl
  | 2,_=>rfl
 rw[hnm];have hN:1+v≤3:=by exact Bk hv
 have hN1:1≤1+v:=by omega
 generalize 1+v=N at hN hN1;fail "w";have hnl:((aL N).map V.str).length=N:=by simp[aL]
 refine aO (fun i σ'=>∃(P':dO) (W:Wd),ru pa P'∧dj W∧W.length=i∧σ'=(wa,.dS (oN W))::(c,.cell (.loc pa))::P'.st σ) ?_;refine aa (by fail "a") C.g_range ?_;refine' cL (aa (by fail "a") C.g_len ?_);refine' bt .lst (by exact z5 hnl hN) ?_;rw[hnl];refine ez ?_;refine⟨⟨by exact z4 hN,by exact Ce hN1⟩,_,.rng,⟨P,[],hP,fun t m h=>by simp at h,rfl,rfl⟩,?_,?_⟩
 ·delta i v' σ' hv';intro z1;injection z1 with P W hP hW rfl rfl;rw[List.getElem?_map,Option.map_eq_some_iff] at hv';injection hv' with j hj rfl;rw[Int.toNat_natCast,List.getElem?_eq_some_iff] at hj;injection hj with hj1 hj2;rw[List.length_range] at hj1;rw[List.getElem_range] at hj2;subst hj2;have hWN:W.length<N:=hj1
  have hW3:W.length<3:=by omega
  refine dr (by fail "m") ?_;refine bq ?_;refine cR (ηk:=[(".0",.un),("other",.un),("_law_draw",.glb),("pool",.cel c)]) (by fail "n") (by fail "s") ?_;refine⟨fun i out σ'=>∃(P':dO) (imps:List Nat),ru pa P'∧imps.Pairwise (·<·)∧(∀x∈imps,x<i)∧out=imps.map (fun x=>V.str (nm x))∧σ'=(wa,.dS (oN W))::(c,.cell (.loc pa))::P'.st σ,?_⟩;refine' bA (rE ?_);refine⟨_,W.length,rfl,.lst,by exact z5 hnl hN,?_⟩;delta sl;refine⟨_,_,ay.lst .here,trivial,_,.lst,?_,⟨P,[],hP,.nil,by simp,rfl,rfl⟩,?_,?_⟩
  ·have:=List.length_take_le W.length ((aL N).map V.str);exact Bj this hj1 hN
  ·delta i v out σ' hv;intro z10;injection z10 with P imps hP hi1 hi2 rfl rfl
   have hil:i<W.length:=by
    rw[List.getElem?_eq_some_iff] at hv;obtain⟨h1,_⟩:=hv;have:=List.length_take_le W.length ((aL N).map V.str);omega
   have hvn:v=.str (nm i):=by
    rw[List.getElem?_take,if_pos hil,List.getElem?_map,aL,List.getElem?_map,List.getElem?_range (by exact tC hil hj1)] at hv;simpa using hv.symm
   subst hvn;fail "w";refine⟨by fail "d",?_⟩;show TB _ _ _ _ _
   fail "w";refine' aa (by fail "a") C.g__law_draw ?_;refine aJ (TF.up (m:=n+1) (vn C hP (by decide) (by decide) ?_) (by exact yt));delta P v hP hv;fail "w";refine ek (fun U=>?_) (fun U=>?_)
   ·fail "w";refine⟨P,imps++[i],hP,?_,?_,by rw[List.map_append];rfl,rfl⟩
    ·rw[List.pairwise_append];exact⟨hi1,by simp,fun a ha b hb=>by rw[List.mem_singleton] at hb;subst hb;exact hi2 a ha⟩
    ·delta x hx;rw[List.mem_append,List.mem_singleton] at hx;rcases hx with hx|rfl
     ·have:=hi2 x hx;omega
     ·omega
   ·exact⟨P,imps,hP,hi1,fun x hx=>by have:=hi2 x hx;omega,rfl,rfl⟩
  ·delta out σ';intro z18;injection z18 with P imps hP hi1 hi2 rfl rfl;delta ia;refine⟨_,by fail "m",?_⟩
   have hi3:∀x∈imps,x<W.length:=fun x hx=>by
    have h1:=hi2 x hx
    rw[List.length_take] at h1;exact Hv h1 hj1 hnl
   show dl _ _ _ _ _
   refine' b5 (aC.frz (gd.lst (a:=ia) .here) aR.refl (by fail "q")) ?_;refine' b8 ?_;refine⟨by fail "g",?_⟩;delta pr;fail "w";refine' aa (by fail "a") C.g__law_draw ?_;refine aJ (TF.up (m:=n+1) (zT C hP (by decide) (by decide) ?_) (by exact yt));delta P cn hP hcn;fail "w";have hcnt:((1:Int)+(cn:Nat))=((1+cn:Nat):Int):=by rw[Int.natCast_add];rfl
   rw[hcnt];have hc1:1≤1+cn:=by omega
   have hc3:1+cn≤3:=by exact Bk hcn
   generalize 1+cn=mz at hc1 hc3;clear hcnt hcn
   refine aO (fun i σ'=>∃(P':dO) (procs:List (List bg)),ru pa P'∧procs.length=i∧(∀(e:Nat) ds,procs[e]?=some ds→ds.length≤(if e=0 then 2 else 1)∧∀d∈ds,ef W W.length mz imps e d)∧
    σ'=(pr,.lst (procs.map pN))::(wa,.dS (oN W))::(c,.cell (.loc pa))::P'.st σ) ?_
   refine' aa (by fail "a") C.g_range ?_;refine ez ?_;refine⟨⟨by exact z4 hc3,by exact Ce hc1⟩,_,.rng,⟨P,[],hP,rfl,by simp,rfl⟩,?_,?_⟩
   ·delta e v' σ' hv';intro z26;injection z26 with P procs hP hpl hpo rfl;rw[List.getElem?_map,Option.map_eq_some_iff] at hv';injection hv' with j hj rfl;rw[Int.toNat_natCast,List.getElem?_eq_some_iff] at hj;injection hj with hj1 hj2;rw[List.length_range] at hj1;rw[List.getElem_range] at hj2;subst hj2;fail "w";refine' b8 ?_;refine⟨by fail "g",?_⟩;delta de;fail "w";refine mE ?_;refine aa (by fail "a") C.g_range ?_;refine cL (aa (by fail "a") C.g__law_draw ?_);refine cL (bw (by fail "a") (by fail "e") ?_);refine cL (Aa (v:=.int ((if e=0 then 3 else 2:Nat):Int)) ?_ ?_)
    ·fail "w";by_cases h0:e=0
     ·refine' aG (by rw[beq_iff_eq];exact Bi h0) ?_;rw[if_pos h0];exact⟨rfl,rfl⟩
     ·refine' ak (by rw[beq_eq_false_iff_ne];exact Bh h0) ?_;rw[if_neg h0];exact⟨rfl,rfl⟩
    fail "w";refine aJ (TF.up (m:=n+1) (jE C hP (by split<;>decide) (by split<;>decide) ?_) (by exact yt));delta P dn hP hdn;fail "w";refine ez ?_;have hdn2:dn≤(if e=0 then 2 else 1):=by split at hdn<;>simp_all<;>(first|exact Hu hdn|exact Ht hdn)
    refine⟨⟨by split at hdn2<;>omega,by exact z0⟩,_,fun i σ'=>∃(P':dO) (ds:List bg),ru pa P'∧ds.length≤i∧(∀d∈ds,ef W W.length mz imps e d)∧
     σ'=(de,.lst (ds.map m7))::(pr,.lst (procs.map pN))::(wa,.dS (oN W))::(c,.cell (.loc pa))::P'.st σ,.rng,⟨P,[],hP,Nat.le_refl _,by simp,rfl⟩,?_,?_⟩
    ·delta k v' σ' hv';intro z34;injection z34 with P ds hP hdl hdo rfl
     have hkd:k<dn:=by
      rw[List.getElem?_map,Option.map_eq_some_iff] at hv';obtain⟨j,hj,_⟩:=hv';rw[Int.toNat_natCast,List.getElem?_eq_some_iff] at hj;obtain⟨hj1,_⟩:=hj;rwa[List.length_range] at hj1
     have hds2:ds.length≤2:=by split at hdn2<;>omega
     have happ:∀d,ef W W.length mz imps e d→(ds++[d]).length≤k+1∧∀d'∈ds++[d],ef W W.length mz imps e d':=fun d hd=>by
      refine⟨by rw[List.length_append];simp;omega,fun d' ku=>?_⟩;rw[List.mem_append,List.mem_singleton] at ku;rcases ku with h|rfl
      ·exact hdo d' h
      ·exact hd
     fail "w";refine' aa (by fail "a") C.g__law_draw ?_;refine aJ (TF.up (m:=n+1) (jE C hP (by decide) (by decide) ?_) (by exact yt));delta P kd hP hkd2;refine dr (by fail "m") ?_;show dl _ _ _ _ _
     have hown:∀(K:ui) (P:dO) (v:Nat),K≠.away→(v:Int)<(mz:Nat)-(e:Nat)-1→ef W W.length mz imps e ⟨K,W.length,e+1+v⟩:=fun K P v hK hv=>by
      cases K with
      | away=>exact absurd rfl hK
      | own=>exact⟨rfl,by show e<e+1+v;exact Bg,by show e+1+v<mz;exact Bf hv⟩
      | held=>exact⟨rfl,by show e<e+1+v;exact Bg,by show e+1+v<mz;exact Bf hv⟩
     have hnmW:((aL N).map V.str)[(((W.length:Nat):Int)).toNat]?=some (.str (nm W.length)):=by
      rw[Int.toNat_natCast,List.getElem?_map,aL,List.getElem?_map,List.getElem?_range hWN];rfl
     refine bq (ul (Ab (b:=decide (kd=0∧e+1<mz)) ?_ ?_))
     ·fail "w";by_cases h0:kd=0
      ·refine' aG (by rw[beq_iff_eq];exact Bi h0) ?_;refine ek (fun h1=>?_) (fun h1=>?_)
       ·exact eh ⟨by rw[decide_eq_true (by exact Hs h1 h0 hj1)],rfl⟩
       ·exact⟨by rw[decide_eq_false (by exact Hr hj1 h1)],rfl⟩
      ·refine ak (by rw[beq_eq_false_iff_ne];exact Bh h0) ?_;exact⟨by rw[decide_eq_false (by exact Hq h0)],rfl⟩
     refine ek (fun hA=>?_) (fun hA=>?_)
     ·fail "w";refine' ap ?_;refine' aH slot_list_append (by rfl) rfl (by fail "c") ?_;refine' al .lst hnmW (by exact hU) (by exact yr (by assumption) hN) ?_;refine' aa (by fail "a") C.g__law_draw ?_;refine' aJ (TF.up (m:=n+1) (jE C hP (by exact Hp hj1 hA) (by exact Be hc3) fun P v hP hv=>?_) (by exact yt));refine' ⟨by fail "g",?_⟩;refine am (by fail "b") (by rw[List.length_map];omega) ?_;fail "f";obtain⟨h1,h2⟩:=happ _ (hown .own P v (by decide) hv);refine⟨by fail "d",P,ds++[⟨.own,W.length,e+1+v⟩],hP,h1,h2,?_⟩;rw[List.map_append];rfl
     refine bq (ul (Ab (b:=decide (kd=1∧e+1<mz)) ?_ ?_))
     ·fail "w";by_cases h0:kd=1
      ·refine' aG (by rw[beq_iff_eq];exact Ho h0) ?_;refine ek (fun h1=>?_) (fun h1=>?_)
       ·exact eh ⟨by rw[decide_eq_true (by exact Hn h1 h0 hj1)],rfl⟩
       ·exact⟨by rw[decide_eq_false (by exact Hm hj1 h1)],rfl⟩
      ·refine ak (by rw[beq_eq_false_iff_ne];exact Hl h0) ?_;exact⟨by rw[decide_eq_false (by exact Hk h0)],rfl⟩
     refine ek (fun hB=>?_) (fun hB=>?_)
     ·fail "w";refine' ap ?_;refine' aH slot_list_append (by rfl) rfl (by fail "c") ?_;refine' al .lst hnmW (by exact hU) (by exact yr (by assumption) hN) ?_;refine' aa (by fail "a") C.g__law_draw ?_;refine' aJ (TF.up (m:=n+1) (jE C hP (by exact Hj hj1 hB) (by exact Be hc3) fun P v hP hv=>?_) (by exact yt));refine' ⟨by fail "g",?_⟩;refine am (by fail "b") (by rw[List.length_map];omega) ?_;fail "f";obtain⟨h1,h2⟩:=happ _ (hown .held P v (by decide) hv);refine⟨by fail "d",P,ds++[⟨.held,W.length,e+1+v⟩],hP,h1,h2,?_⟩;rw[List.map_append];rfl
     refine bq (ul ?_);refine' lm ?_;refine' bG ?_;refine⟨by fail "g",?_⟩;refine' qv .lst .lst ?_;by_cases himp:imps=[]
     ·refine ak (by rw[himp];rfl) ?_;fail "f";exact⟨by fail "d",P,ds,hP,by omega,hdo,rfl⟩
     ·have hil:0<imps.length:=List.length_pos_iff.mpr himp
      have hil3:imps.length≤3:=by
       have h1:=bk (n:=W.length) (hi1.imp fun h=>Nat.ne_of_lt h) hi3
       exact Hi h1 (by assumption) hN
      refine' aG (by cases imps with|nil=>exact absurd rfl himp|cons=>rfl) ?_;refine' aa (by fail "a") C.g__law_draw ?_;refine' aa (by fail "a") C.g_len ?_;refine bt .lst (by rw[List.length_map];omega) ?_;rw[List.length_map];fail "w";refine aJ (TF.up (m:=n+1) (jE C hP (by exact Hh hil) (by exact yW hil3) fun P v hP hv=>?_) (by exact yt));have hv2:v<imps.length:=by exact xp hv
      have hx:imps[v]?=some imps[v]:=List.getElem?_eq_getElem hv2
      obtain⟨x,hx⟩:=tT hx;have hxm:=List.mem_of_getElem? hx
      have hxW:x<W.length:=hi3 x hxm
      have hWx:W[x]?=some W[x]:=List.getElem?_eq_getElem hxW
      obtain⟨m',hWx⟩:=tT hWx;have hm':=hW x m' hWx
      refine' al (v:=.str (nm x)) .lst (by rw[Int.toNat_natCast,List.getElem?_map,hx];rfl) (by exact hU) (by exact Bd hv hil3) ?_;refine' ap ?_;refine' aH slot_list_append (by rfl) rfl (by fail "c") ?_;refine' aa (by fail "a") C.g__law_draw ?_;refine' aa (by fail "a") C.g_len ?_;refine bo (by fail "c") (jh (by omega) hWx) ?_;unfold pg;fail "w";have hp1:=hm'.pos
      have hp3:=hm'.few
      refine bt .lst (by rw[List.length_map];omega) ?_;rw[List.length_map];fail "w";refine' aJ (TF.up (m:=n+1) (jE C hP (by exact Cd hp1) (by exact yW hp3) fun P u hP hu=>?_) (by exact yt));refine' ⟨by fail "g",?_⟩;refine am (by fail "b") (by rw[List.length_map];omega) ?_;fail "f";obtain⟨h1,h2⟩:=happ ⟨.away,x,u⟩ ⟨hxm,m',hWx,by show u<m'.procs.length;exact xp hu⟩;refine⟨by fail "d",P,ds++[⟨.away,x,u⟩],hP,h1,h2,?_⟩;rw[List.map_append];rfl
    ·delta σ';intro z40;injection z40 with P ds hP hdl hdo rfl;rw[List.length_map,List.length_range,Int.toNat_natCast] at hdl;show dl _ _ _ _ _
     refine' b5 (aC.frz (gd.lst (a:=de) .here) aR.refl (by fail "q")) ?_;refine' ap ?_;refine' aH slot_list_append (by rfl) rfl (by fail "c") ?_;refine am (by fail "b") (by rw[List.length_map];exact Hg hpl hj1 hc3) ?_;fail "f";refine⟨by fail "d",P,procs++[ds],hP,by rw[List.length_append,hpl];rfl,?_,by rw[List.map_append];rfl⟩;delta e' ds' h;rw[List.getElem?_append] at h;split at h
     ·exact hpo e' ds' h
     ·rename_i hge
      have he:e'=e:=by
       rw[List.getElem?_eq_some_iff] at h;obtain⟨h1,_⟩:=h;simp at h1;exact Hf h1 hpl hge
      subst he;rw[hpl,Nat.sub_self] at h;simp at h;subst h;exact⟨Nat.le_trans hdl hdn2,hdo⟩
   ·delta σ';intro z46;injection z46 with P procs hP hpl hpo rfl;rw[List.length_map,List.length_range,Int.toNat_natCast] at hpl;show dl _ _ _ _ _
    refine' b5 (aC.frz (gd.lst (a:=pr) .here) aR.refl (by fail "q")) ?_;refine' ⟨by fail "g",?_⟩;refine' aU ?_
    have hnmW:((aL N).map V.str)[(((W.length:Nat):Int)).toNat]?=some (.str (nm W.length)):=by
     rw[Int.toNat_natCast,List.getElem?_map,aL,List.getElem?_map,List.getElem?_range hWN];rfl
    refine al .lst hnmW (by exact hU) (by exact yr hj1 hN) ?_;have hs:=wG (W:=W) (m:=⟨imps,procs⟩) hW3
    have hkl:(oN W).length≤10000:=by have:=congrArg List.length (mC W);rw[List.length_map] at this;rw[this];simp[aL];exact Bc hj1 hN
    refine f0 (by fail "b") ?_ hkl;fail "f";refine⟨by fail "d",P,W++[⟨imps,procs⟩],hP,hW.snoc ⟨hi1,hi3,by show 1≤procs.length;exact He hc1 hpl,by show procs.length≤3;exact Hd hpl hc3,fun e ds h=>(hpo e ds h).1,fun e ds h=>?_⟩,by simp,?_⟩
    ·show ∀d∈ds,ef W W.length procs.length imps e d
     rw[hpl];exact(hpo e ds h).2
    ·show(wa,bp.dS (bj (oN W) (nm W.length) (pg ⟨imps,procs⟩)))::_=_
     rw[hs]
 ·delta σ';intro z52;injection z52 with P W hP hW hWl rfl;rw[List.length_map,List.length_range,Int.toNat_natCast] at hWl;refine' b5 (aC.frz (gd.dS (a:=wa) .here) aR.refl (by fail "q")) ?_;refine⟨by fail "g",?_⟩;refine⟨_,_,ay.drop (List.Sublist.cons _ (List.Sublist.refl _)),?_⟩;subst hWl;exact q P W hP hW hN1 hN
end
theorem fG:∀(a b:List bR) (i:Nat),bm (a++b) i=bm a i++bm b (i+a.length)
 | [],b,i=>rfl
 | x::r,b,i=>by erw[List.cons_append,d6,d6,fG r b,List.append_assoc,List.length_cons,show i+1+r.length=i+(r.length+1)by exact vV]
theorem fF:∀(a b:List bR) (i:Nat),bx (a++b) i=bx a i++bx b (i+a.length)
 | [],b,i=>rfl
 | x::r,b,i=>by erw[List.cons_append,cF,cF,fF r b,List.append_assoc,List.length_cons,show i+1+r.length=i+(r.length+1)by exact vV]
def ae (procs:List (List bg)) (e:Nat):Nat:=((procs.take e).map fun ds=>7+ds.length).sum
def gH (starts:Nat→Nat) (imps:List Nat) (e here:Nat) (d:bg):bR:=match d.k with
 | .own=>⟨.bl ((starts d.w:Nat)-(here:Nat)-1) 0,none,[0-8-4*(e:Nat)]⟩
 | .held=>⟨.reg .movi 2 0 (starts d.w:Nat),some .addr,[]⟩
 | .away=>⟨.bl 0 0,some (.call (imps.idxOf d.m+1) (d.w+1)),[0-8-4*(e:Nat)]⟩
def bu (starts:Nat→Nat) (imps:List Nat) (e:Nat):List bg→Nat→List bR
 | [],_=>[]
 | d::r,here=>gH starts imps e here d::bu starts imps e r (here+1)
theorem zL {starts:Nat→Nat} {imps:List Nat} {e here:Nat}:bu starts imps e [] here=[]:=rfl
theorem dM {starts:Nat→Nat} {imps:List Nat} {e here:Nat} {d:bg} {r:List bg}:bu starts imps e (d::r) here=gH starts imps e here d::bu starts imps e r (here+1):=rfl
theorem iB (starts:Nat→Nat) (imps:List Nat) (e:Nat):∀(a b:List bg) (here:Nat),bu starts imps e (a++b) here=bu starts imps e a here++bu starts imps e b (here+a.length)
 | [],b,here=>rfl
 | x::r,b,here=>by erw[List.cons_append,dM,dM,iB starts imps e r b,List.length_cons,show here+1+r.length=here+(r.length+1)by exact vV];rfl
theorem fJ (starts:Nat→Nat) (imps:List Nat) (e:Nat):∀(a:List bg) (here:Nat),(bu starts imps e a here).length=a.length
 | [],_=>rfl
 | x::r,here=>by erw[dM,List.length_cons,fJ starts imps e r];rfl
def eM (t e:Nat):List bR:=[⟨.reg .subi 14 14 8,none,[]⟩,⟨.reg .str 15 14 0,none,[]⟩,⟨.reg .movi 0 0 (100*(t:Nat)+(e:Nat)),none,[]⟩,⟨.reg .ldr 1 13 0,some .data,[]⟩]
def jJ:List bR:=[⟨.reg .ldr 15 14 0,none,[]⟩,⟨.reg .addi 14 14 8,none,[]⟩,⟨.br 15 0,none,[]⟩]
def mh (t:Nat) (starts:Nat→Nat) (imps:List Nat) (e:Nat) (ds:List bg):List bR:=eM t e++bu starts imps e ds (starts e+4)++jJ
def eK (t:Nat) (starts:Nat→Nat) (imps:List Nat):List (List bg)→Nat→List bR
 | [],_=>[]
 | ds::r,e=>mh t starts imps e ds++eK t starts imps r (e+1)
theorem CP {t:Nat} {starts:Nat→Nat} {imps:List Nat} {e:Nat}:eK t starts imps [] e=[]:=rfl
theorem g9 {t:Nat} {starts:Nat→Nat} {imps:List Nat} {e:Nat} {ds:List bg} {r:List (List bg)}:eK t starts imps (ds::r) e=mh t starts imps e ds++eK t starts imps r (e+1):=rfl
theorem lc (t:Nat) (starts:Nat→Nat) (imps:List Nat):∀(a b:List (List bg)) (e:Nat),eK t starts imps (a++b) e=eK t starts imps a e++eK t starts imps b (e+a.length)
 | [],b,e=>rfl
 | x::r,b,e=>by rewrite [List.cons_append,g9,g9,lc t starts imps r b,List.append_assoc,List.length_cons,show e+1+r.length=e+(r.length+1)by exact vV];rfl
theorem sW {t:Nat} {starts:Nat→Nat} {imps:List Nat} {e:Nat} {ds:List bg}:(mh t starts imps e ds).length=7+ds.length:=by
 simp[mh,eM,jJ,fJ];exact Hc
theorem jF (t:Nat) (starts:Nat→Nat) (imps:List Nat):∀(a:List (List bg)) (e:Nat),(eK t starts imps a e).length=(a.map fun ds=>7+ds.length).sum
 | [],_=>rfl
 | x::r,e=>by erw[g9,List.length_append,sW,jF t starts imps r];simp
def eE (e:Nat):Str:="P"++Str.ofString (toString (e:Int))
def fE (t:Nat) (m:Mod):RO where
 name:=nm t
 key:=50+(t:Nat)
 imps:=m.imps.map fun i=>(nm i,50+(i:Nat))
 size:=4*((t:Nat)+1)
 words:=[(0,900+(t:Nat))]
 ar:=eK t (ae m.procs) m.imps m.procs 0
 ents:=(List.range m.procs.length).map (ae m.procs)
 cmds:=(List.range m.procs.length).map fun e=>(eE e,ae m.procs e)
 body:=0
def qS (W:Wd) (i:Nat):List (Str×V):=(W.zipIdx i).map fun p=>(nm p.2,(fE p.2 p.1).v)
def eJ (W:Wd):List (Str×V):=qS W 0
theorem m6:∀(W:Wd) (i:Nat),(qS W i).map (fun U=>U.1)=(List.range' i W.length).map nm
 | [],i=>rfl
 | m::r,i=>by
  show nm i::(qS r (i+1)).map (fun U=>U.1)=_
  erw[m6 r (i+1)];rfl
theorem ja (W:Wd):(eJ W).map (fun U=>U.1)=aL W.length:=by
 unfold eJ aL;erw[m6,List.range_eq_range']
theorem oe {W:Wd} {t:Nat} {m:Mod} (hW:W.length≤3) (h:W[t]?=some m):aB (eJ W) (nm t)=some (fE t m).v:=by
 refine cS (by erw[ja];exact lU hW) ?_;refine List.mem_map.mpr ⟨(m,t),?_,rfl⟩;erw[List.mem_zipIdx_iff_getElem?];exact h
theorem sJ {W:Wd} {m:Mod} (hW:W.length<3):bj (eJ W) (nm W.length) (fE W.length m).v=eJ (W++[m]):=by
 erw[ch]
 ·unfold eJ qS;erw[List.zipIdx_append,List.map_append];simp
 ·erw[ja];intro h;obtain⟨j,hj,e⟩:=List.mem_map.mp h;rw[List.mem_range]at hj;have:=i9 (by exact Bl hj hW) hW e
  exact z6 hj this
def k5 (d:Ad) (name:Str) (key:Int) (imps:V) (rows fixs ents:List V) (maps:List (Int×V)) (cmds:List (Str×V)) (σ:aj):aj:=
 (d.cm,.dS cmds)::(d.mp,.dI maps)::(d.po,.lst [])::(d.en,.lst ents)::(d.fx,.lst fixs)::(d.df,.lst [])::(d.wo,.lst [])::(d.ro,.lst rows)::(d.im,.lst [])::(d.x,.inst 83 d.dx)::
  (d.dx,.dS (b2 (.str name) (.int key) imps (.loc d.ro) (.int 0) (.loc d.wo) (.loc d.df) (.loc d.fx) (.loc d.en) (.loc d.po) (.loc d.mp) (.loc d.cm) (.int 0)))::σ
def gF (d:Ad) (name:Str) (key:Int) (imps:V) (ar:List bR) (ents:List Nat) (cmds:List (Str×Nat)) (σ:aj):aj:=
 k5 d name key imps (ar.map fun a=>a.ins.v) ((bm ar 0).map fz) (ents.map oi) ((bx ar 0).map co) (cmds.map cC) σ
theorem vS (ar:List bR):(bx ar 0).length≤ar.length+1:=by
 delta ar at ⊢;have:=bk (n:=ar.length+1) (((eD ar 0).imp (fun h=>Nat.ne_of_lt h))) (fun j hj=>by obtain⟨p,hp,rfl⟩:=List.mem_map.mp hj;have:=(gI hp).2;exact Ch this)
 rwa[List.length_map]at this
theorem pK (ar:List bR):(bm ar 0).length≤ar.length:=by
 delta ar at ⊢;have:=bk (n:=ar.length) (gg ar 0) (fun j hj=>by obtain⟨⟨j',f⟩,hp,rfl⟩:=List.mem_map.mp hj;obtain⟨a,_,h,_⟩:=eP.mp hp;rw[List.getElem?_eq_some_iff]at h;obtain⟨h,_⟩:=h;simpa using h)
 rwa[List.length_map]at this
theorem rV {ar:List bR}:((ar.length:Nat):Int)+1∉((bx ar 0).map co).map (fun U=>U.1):=by
 delta ar at ⊢;intro h;obtain⟨_,h1,e⟩:=List.mem_map.mp h;obtain⟨p,h2,rfl⟩:=List.mem_map.mp h1;have h3:=(gI h2).2
 have e':((p.1:Nat):Int)=(ar.length:Int)+1:=e
 exact Hb e' h3
theorem Cr {d:Ad} {name key imps size words body:V} {rows fixs ents:List V} {maps:List (Int×V)} {cmds:List (Str×V)} {σ:aj}:
 ay (.loc d.x) ((d.cm,.dS cmds)::(d.mp,.dI maps)::(d.po,.lst [])::(d.en,.lst ents)::(d.fx,.lst fixs)::(d.df,.lst [])::(d.wo,.lst [])::(d.ro,.lst rows)::(d.im,.lst [])::(d.x,.inst 83 d.dx)::
 (d.dx,.dS (b2 name key imps (.loc d.ro) size words (.loc d.df) (.loc d.fx) (.loc d.en) (.loc d.po) (.loc d.mp) (.loc d.cm) body))::σ)
 (.obj 83 (b2 name key imps (.lst rows) size words (.lst []) (.lst fixs) (.lst ents) (.lst []) (.dI maps) (.dS cmds) body)) σ:=ay.trans (ay.frz (gd.dS (a:=d.cm) .here) (aR.cons bf.refl (aR.cons bf.refl (aR.cons bf.refl (aR.cons bf.refl (aR.cons bf.refl (aR.cons bf.refl (aR.cons bf.refl (aR.cons bf.refl (aR.cons bf.refl (aR.cons (bf.dS (iN (v11:=.none))) aR.refl)))))))))) .refl) (ay.trans (ay.frz (gd.dI (a:=d.mp) .here) (aR.cons bf.refl (aR.cons bf.refl (aR.cons bf.refl (aR.cons bf.refl (aR.cons bf.refl (aR.cons bf.refl (aR.cons bf.refl (aR.cons bf.refl (aR.cons (bf.dS (uF (v10:=.none))) aR.refl))))))))) .refl) (ay.trans (ay.frz (gd.lst (a:=d.po) .here) (aR.cons bf.refl (aR.cons bf.refl (aR.cons bf.refl (aR.cons bf.refl (aR.cons bf.refl (aR.cons bf.refl (aR.cons bf.refl (aR.cons (bf.dS (lR (v9:=.none))) aR.refl)))))))) .refl) (ay.trans (ay.frz (gd.lst (a:=d.en) .here) (aR.cons bf.refl (aR.cons bf.refl (aR.cons bf.refl (aR.cons bf.refl (aR.cons bf.refl (aR.cons bf.refl (aR.cons (bf.dS (k8 (v8:=.none))) aR.refl))))))) .refl) (ay.trans (ay.frz (gd.lst (a:=d.fx) .here) (aR.cons bf.refl (aR.cons bf.refl (aR.cons bf.refl (aR.cons bf.refl (aR.cons bf.refl (aR.cons (bf.dS (lr (v7:=.none))) aR.refl)))))) .refl) (ay.trans (ay.frz (gd.lst (a:=d.df) .here) (aR.cons bf.refl (aR.cons bf.refl (aR.cons bf.refl (aR.cons bf.refl (aR.cons (bf.dS (iM (v6:=.none))) aR.refl))))) .refl) (ay.trans (ay.drop (List.Sublist.cons _ (List.Sublist.refl _))) (ay.trans (ay.frz (gd.lst (a:=d.ro) .here) (aR.cons bf.refl (aR.cons bf.refl (aR.cons (bf.dS (uE (v3:=.none))) aR.refl))) .refl) (ay.trans (ay.drop (List.Sublist.cons _ (List.Sublist.refl _))) (ay.obj .here .here)))))))))
theorem iS {N i:Nat} (h:i<N):(aL N)[i]?=some (nm i):=by rw[aL,List.getElem?_map,List.getElem?_range h];rfl
theorem iR {N i:Nat} (hN:N≤3) (h:i<N):∀m,m<i→(aL N)[m]?≠some (nm i):=fun m hm e=>by
 rw[iS (by exact tC hm h)]at e;have:=i9 (by exact yV hm h hN) (by omega) (Option.some.inj e)
 exact z6 hm this
theorem pR {e:Nat} (h:e<3):Str.length "P" + Str.length (Str.ofString (toString ((e:Nat):Int)))≤sizeLine:=by
 rw[sizeLine_eq];match e,h with
 | 0,_=>decide +kernel
 | 1,_=>decide +kernel
 | 2,_=>decide +kernel
theorem sj {a b:Nat} (h:a<b) (hb:b<3):eE a≠eE b:=(by decide +kernel:∀b,b<3→∀a,a<b→eE a≠eE b) b hb a h
theorem Cq {l:List Nat} {x:Nat} (h:x∈l):(l.map nm)[l.idxOf x]?=some (nm x):=by
 rw[List.getElem?_map,List.getElem?_eq_getElem (List.idxOf_lt_length_iff.mpr h),List.getElem_idxOf];rfl
theorem wx {l:List Nat} {x:Nat} (h:x∈l) (hl:∀y∈l,y<3):∀m,m<l.idxOf x→(l.map nm)[m]?≠some (nm x):=fun m hm e=>by
 have hml:m<l.length:=Nat.lt_trans hm (List.idxOf_lt_length_iff.mpr h)
 rw[List.getElem?_map,List.getElem?_eq_getElem hml]at e;have e1:=i9 (hl _ (List.getElem_mem hml)) (hl x h) (Option.some.inj e)
 have:=List.not_of_lt_findIdx hm
 simp[e1]at this
theorem fD {procs:List (List bg)} {i:Nat} {ds:List bg} (h:procs[i]?=some ds):ae procs (i+1)=ae procs i+(7+ds.length):=by
 unfold ae;rw[List.take_add_one,h];simp
theorem lp {d:Ad} {name:Str} {key:Int} {imps:V} {ar:List bR} {ents:List Nat} {cmds:List (Str×Nat)} {σ:aj} {a:bR}:gF d name key imps (ar++[a]) ents cmds σ =
 k5 d name key imps ((ar.map fun a=>a.ins.v)++[a.ins.v]) ((bm ar 0).map fz++(match a.fx with|some f=>[fz (ar.length,f)]|none=>[])) (ents.map oi) ((bx ar 0).map co++if a.ins.isBL then[co (ar.length+1,a.mp)]else[]) (cmds.map cC) σ:=by
 unfold gF;rewrite [fG,fF,List.map_append,List.map_append,List.map_append,Nat.zero_add];congr 1
 ·congr 1;obtain⟨ins,fx,mp⟩:=a;cases fx<;>rfl
 ·congr 1;obtain⟨ins,fx,mp⟩:=a;simp only[lq,cF,List.append_nil];split<;>rfl
theorem xg {d:Ad} {name:Str} {key:Int} {imps:V} {ar:List bR} {ents:List Nat} {cmds:List (Str×Nat)} {σ:aj} {starts:Nat→Nat} {is:List Nat} {e dm dw:Nat}:gF d name key imps (ar++[gH starts is e ar.length ⟨.own,dm,dw⟩]) ents cmds σ =
 k5 d name key imps ((ar.map fun a=>a.ins.v)++[(aN.bl ((starts dw:Nat)-(ar.length:Nat)-1) 0).v]) ((bm ar 0).map fz) (ents.map oi) ((bx ar 0).map co++[co (ar.length+1,[0-8-4*(e:Nat)])]) (cmds.map cC) σ:=by
 rw[lp];show k5 d name key imps _ (_++[]) _ _ _ _=_
 rw[List.append_nil];rfl
theorem vN {d:Ad} {name:Str} {key:Int} {imps:V} {ar:List bR} {ents:List Nat} {cmds:List (Str×Nat)} {σ:aj} {starts:Nat→Nat} {is:List Nat} {e dm dw:Nat}:gF d name key imps (ar++[gH starts is e ar.length ⟨.held,dm,dw⟩]) ents cmds σ =
 k5 d name key imps ((ar.map fun a=>a.ins.v)++[(aN.reg .movi 2 0 (starts dw:Nat)).v]) ((bm ar 0).map fz++[fz (ar.length,.addr)]) (ents.map oi) ((bx ar 0).map co) (cmds.map cC) σ:=by
 rw[lp];show k5 d name key imps _ _ _ (_++[]) _ _=_
 rw[List.append_nil];rfl
theorem vP {d:Ad} {name:Str} {key:Int} {imps:V} {ar:List bR} {ents:List Nat} {cmds:List (Str×Nat)} {σ:aj} {starts:Nat→Nat} {is:List Nat} {e dm dw:Nat}:gF d name key imps (ar++[gH starts is e ar.length ⟨.away,dm,dw⟩]) ents cmds σ =
 k5 d name key imps ((ar.map fun a=>a.ins.v)++[(aN.bl 0 0).v]) ((bm ar 0).map fz++[fz (ar.length,.call (is.idxOf dm+1) (dw+1))]) (ents.map oi) ((bx ar 0).map co++[co (ar.length+1,[0-8-4*(e:Nat)])]) (cmds.map cC) σ:=by
 rw[lp];rfl
theorem vO {d:Ad} {name:Str} {key:Int} {imps:V} {ar:List bR} {ents:List Nat} {cmds:List (Str×Nat)} {σ:aj} {t e:Nat}:gF d name key imps (ar++eM t e) ents cmds σ =
 k5 d name key imps ((ar.map fun a=>a.ins.v)++(eM t e).map fun a=>a.ins.v) ((bm ar 0).map fz++[fz (ar.length+3,.data)]) (ents.map oi) ((bx ar 0).map co) (cmds.map cC) σ:=by
 unfold gF;rw[fG,fF,List.map_append,List.map_append,List.map_append,Nat.zero_add];simp[eM,ls,d6,lq,cF,aN.isBL]
theorem vM {d:Ad} {name:Str} {key:Int} {imps:V} {ar:List bR} {ents:List Nat} {cmds:List (Str×Nat)} {σ:aj}:gF d name key imps (ar++jJ) ents cmds σ =
 k5 d name key imps ((ar.map fun a=>a.ins.v)++jJ.map fun a=>a.ins.v) ((bm ar 0).map fz) (ents.map oi) ((bx ar 0).map co) (cmds.map cC) σ:=by
 unfold gF;rw[fG,fF,List.map_append,List.map_append,List.map_append,Nat.zero_add];simp[jJ,ls,d6,lq,cF,aN.isBL]
section
variable (C:kq) {n:Nat} {σ:aj} {Q:V→aj→Prop}
include C
theorem sR {W:Wd} (hW:dj W) (hl:W.length≤3) (q:Q (.dS (eJ W)) σ):TF (n+3) 322 [.lst ((aL W.length).map V.str),.dS (oN W)] σ Q:=by
 delta C n σ Q W hW hl q at ⊢;have hK:=C.hK
 refine cU (aW (by rw[hK];rfl) rfl rfl (by rw[hK];nofun) (by nofun) (by nofun) (pn fun U U=>rfl) ?_);delta c;fail "j";fail "w";refine gC ?_;delta fa;fail "w";have hnl:((aL W.length).map V.str).length=W.length:=by simp[aL]
 refine aO (fun i σ'=>σ'=(fa,.dS (eJ (W.take i)))::(c,.cell (.lst ((aL W.length).map V.str)))::σ) ?_;refine aa (by fail "a") C.g_range ?_;refine' cL (aa (by fail "a") C.g_len ?_);refine' bt .lst (by exact z5 hnl hl) ?_;rw[hnl];refine ez ?_;refine⟨⟨by exact z4 hl,by exact z0⟩,_,.rng,by rw[List.take_zero];rfl,?_,?_⟩
 ·delta t v' σ' hv';intro z568;first|subst z568|cases z568
  rw[List.getElem?_map,Option.map_eq_some_iff]at hv';injection hv' with j hj rfl;rw[Int.toNat_natCast,List.getElem?_eq_some_iff]at hj;injection hj with hj1 hj2;rw[List.length_range]at hj1;rw[List.getElem_range]at hj2;subst hj2;have hWt:W[t]?=some W[t]:=List.getElem?_eq_getElem hj1
  injection (tT hWt)with m hWt;have hm:=hW t m hWt
  fail "w";refine' al (v:=.str (nm t)) .lst (by rw[Int.toNat_natCast,List.getElem?_map,aL,List.getElem?_map,List.getElem?_range hj1];rfl) (by exact hU) (by exact yr hj1 hl) ?_;refine bo .dS (jh hl hWt) ?_;unfold pg;fail "w";refine' aa (by fail "a") C.g_ObjectFile ?_;refine aJ (TF.up (m:=n+2) (ml (fI:=80) (by rw[hK];nofun) (by rw[hK];nofun) (by rw[hK];nofun) ?_) (by omega));delta x dx;refine ub C ?_;delta im ro wo df fx en po mp cm;refine⟨rfl,?_⟩;unfold uN;fail "w";refine bA ?_;refine eW (ηk:=[(".0",.un),("other",.un),("names_of",.cel c)]) (by fail "n") (cB.pure m.imps (fun i=>V.str (nm i)) (fun i=>lC (nm i,50+(i:Nat))) (fun U=>true) ?iter ?len ?turn ?fin)
  case iter=>
   fail "w";exact⟨trivial,.lst,rfl⟩
  case len=>
   have:=bk (n:=t) (hm.asc.imp fun h=>Nat.ne_of_lt h) hm.imps
   exact Bj this hj1 hl
  case turn=>
   delta i u hu;have hut:=hm.imps u (List.mem_of_getElem? hu)
   fail "w";refine' ⟨by fail "d",rfl,?_⟩;refine' ap ?_;refine' aH PySem.F.slot_list_index (by rfl) rfl .lst ?_;refine' kz .lst (by simp[aL];omega) (iS (show u<W.length by exact tC hut hj1)) (iR hl (by exact tC hut hj1)) ?_;refine⟨by fail "g",?_⟩;exact⟨rfl,rfl⟩
  delta ia;refine⟨_,_,ay.lst .here,?_⟩;rw[bW];fail "p";fail "w";refine' b8 ?_;refine⟨by fail "g",?_⟩;delta sa;fail "w";generalize hs0:((fa,bp.dS (eJ (W.take t)))::(c,bp.cell (.lst ((aL W.length).map V.str)))::σ:aj)=σ0;have hpl:=hm.few
  have hpl1:=hm.pos
  refine' qo (fun i η' σ'=>η'=([("names_of",.cel c),("world",.val (.dS (oN W))),("files",.val (.loc fa)),("turn",.val (.int (t:Nat))),("name",.val (.str (nm t))),("imports_of",.val (.lst (m.imps.map fun i=>.str (nm i)))),("procs_of",.val (.lst (m.procs.map pN))),("made",.val (.loc x)),("other",.un),("starts_at",.val (.loc sa)),("spot",.val (.int (ae m.procs i:Nat))),("deeds",.un),("each",.un),("kind",.un),("which",.un),("here",.un),("range",.glb),("len",.glb),("ObjectFile",.glb),("str",.glb)]:aI)∧σ'=(sa,.lst ((List.range i).map fun e=>.int (ae m.procs e:Nat)))::gF ⟨x,dx,im,ro,wo,df,fx,en,po,mp,cm⟩ (nm t) (50+(t:Nat)) (.lst (m.imps.map fun i=>lC (nm i,50+(i:Nat)))) [] [] [] σ0) ?_;refine⟨trivial,_,.lst,⟨rfl,rfl⟩,?_,?_⟩
  ·delta i v η' σ' hv;intro z571;injection z571 with rfl rfl;rw[List.getElem?_map,Option.map_eq_some_iff]at hv;injection hv with ds hds rfl;have hi:i<m.procs.length:=by rw[List.getElem?_eq_some_iff]at hds;exact hds.1
   have hdl:ds.length≤2:=by have:=hm.short i ds hds;split at this<;>omega
   show TA _ _ (.lst (ds.map m7)) _ _ _
   fail "w";refine' ap ?_;refine' aH slot_list_append (by rfl) rfl (by fail "c") ?_;refine' am (by fail "b") (by simp;exact Bb hi hpl) ?_;refine' lk (by fail "a") ?_;refine' aa (by fail "a") C.g_len ?_;refine' bt .lst (by rw[List.length_map];omega) ?_;refine jk ?_;refine⟨_,by fail "m",?_⟩;show dl _ _ _ _ _
   refine bN (η':=([("names_of",.cel c),("world",.val (.dS (oN W))),("files",.val (.loc fa)),("turn",.val (.int (t:Nat))),("name",.val (.str (nm t))),("imports_of",.val (.lst (m.imps.map fun i=>.str (nm i)))),("procs_of",.val (.lst (m.procs.map pN))),("made",.val (.loc x)),("other",.un),("starts_at",.val (.loc sa)),("spot",.val (.int (ae m.procs (i+1):Nat))),("deeds",.un),("each",.un),("kind",.un),("which",.un),("here",.un),("range",.glb),("len",.glb),("ObjectFile",.glb),("str",.glb)]:aI)) (aC.weak ?_) ?_
   ·have e:((ae m.procs i:Nat):Int)+(7+((ds.map m7).length:Nat))=((ae m.procs (i+1):Nat):Int):=by rw[fD hds,List.length_map];exact Ha
    rw[e];fail "d"
   ·exact⟨rfl,by rw[List.range_succ,List.map_append];rfl⟩
  ·delta η' σ';intro z576;injection z576 with rfl rfl;rw[List.length_map];show dl _ _ _ _ _
   refine' b5 (aC.frz (gd.lst (a:=sa) .here) aR.refl (by fail "q")) ?_
   refine aO (fun e σ'=>σ'=gF ⟨x,dx,im,ro,wo,df,fx,en,po,mp,cm⟩ (nm t) (50+(t:Nat)) (.lst (m.imps.map fun i=>lC (nm i,50+(i:Nat)))) (eK t (ae m.procs) m.imps (m.procs.take e) 0)
    ((List.range e).map (ae m.procs)) ((List.range e).map fun e=>(eE e,ae m.procs e)) σ0) ?_
   refine aa (by fail "a") C.g_range ?_;refine' cL (aa (by fail "a") C.g_len ?_);refine' bt .lst (by rw[List.length_map];omega) ?_;rw[List.length_map];refine ez ?_;refine⟨⟨by exact z4 hpl,by exact Ce hpl1⟩,_,.rng,by rw[List.take_zero];rfl,?_,?_⟩
   ·delta e v' σ' hv';intro z579;first|subst z579|cases z579
    rw[List.getElem?_map,Option.map_eq_some_iff]at hv';injection hv' with j hj rfl;rw[Int.toNat_natCast,List.getElem?_eq_some_iff]at hj;injection hj with he1 hj2;rw[List.length_range]at he1;rw[List.getElem_range]at hj2;subst hj2;have hds:m.procs[e]?=some m.procs[e]:=List.getElem?_eq_getElem he1
    injection (tT hds)with ds hds;have hdl:ds.length≤2:=by have:=hm.short e ds hds;split at this<;>omega
    have hdo:=hm.deeds e ds hds
    have hal:(eK t (ae m.procs) m.imps (m.procs.take e) 0).length=ae m.procs e:=jF ..
    have hta:m.procs.take (e+1)=m.procs.take e++[ds]:=by rw[List.take_add_one,hds];rfl
    have hblk:eK t (ae m.procs) m.imps (m.procs.take (e+1)) 0=eK t (ae m.procs) m.imps (m.procs.take e) 0++mh t (ae m.procs) m.imps e ds:=by
     rw[hta,lc];show _++(mh t (ae m.procs) m.imps (0+(m.procs.take e).length) ds++[])=_
     rw[List.append_nil,List.length_take,Nat.min_eq_left (by omega),Nat.zero_add]
    have hsz:ae m.procs e≤100:=by
     have h1:∀k,k≤m.procs.length→ae m.procs k≤9*k:=fun k=>by
      induction k with
      | zero=>intro _;simp[ae]
      | succ k ih=>
       intro hk;have hdk:m.procs[k]?=some m.procs[k]:=List.getElem?_eq_getElem (by exact Ba hk)
       rw[fD hdk];have h2:=ih (by exact z8 hk)
       have:=hm.short k _ hdk
       split at this<;>(first|exact H9 h2 this hk (by assumption)|exact H8 h2 this hk)
     have:=h1 e (by omega)
     exact H7 this he1 hpl
    rw[hblk];generalize eK t (ae m.procs) m.imps (m.procs.take e) 0=ar at hal;generalize hJ:gF ⟨x,dx,im,ro,wo,df,fx,en,po,mp,cm⟩ (nm t) (50+(t:Nat)) (.lst (m.imps.map fun i=>lC (nm i,50+(i:Nat)))) (ar++mh t (ae m.procs) m.imps e ds) ((List.range (e+1)).map (ae m.procs)) ((List.range (e+1)).map fun e=>(eE e,ae m.procs e)) σ0=σe;unfold gF k5;fail "w";refine' mj ?_;refine mO C (by fail "e") (by fail "e") ?_;refine' bG ?_;refine' ⟨by fail "g",?_⟩;refine' ⟨by fail "g",?_⟩;refine' gA ?_ ?_;refine' ⟨by fail "g",?_⟩;refine' ⟨by fail "g",?_⟩;refine⟨by fail "g",?_⟩;refine i6 (by fail "b") .lst ?_ (by rw[List.length_map];simp;exact B9 hal hsz);refine' mN C (by fail "e") (by fail "b") ?_;refine ap ?_;fail "k";refine' aH slot_list_append (by rfl) rfl (by fail "c") ?_;refine' aa (by fail "a") C.g_len ?_;fail "k";fail "w";refine' bt (by fail "c") (by rw[List.length_append,List.length_map];simp;exact B9 hal hsz) ?_;refine' ⟨by fail "g",?_⟩;have hfl:=pK ar
    refine' am (by fail "b") (by rw[List.length_map];exact H6 hfl hal hsz) ?_
    refine aO (fun k σ'=>σ'=gF ⟨x,dx,im,ro,wo,df,fx,en,po,mp,cm⟩ (nm t) (50+(t:Nat)) (.lst (m.imps.map fun i=>lC (nm i,50+(i:Nat)))) (ar++eM t e++bu (ae m.procs) m.imps e (ds.take k) (ae m.procs e+4))
     ((List.range e).map (ae m.procs)) ((List.range e).map fun e=>(eE e,ae m.procs e)) σ0) ?_
    fail "w";refine al (v:=.lst (ds.map m7)) .lst (by rw[Int.toNat_natCast,List.getElem?_map,hds];rfl) (by exact hU) (by exact yr he1 hpl) ?_;refine⟨trivial,_,.lst,?_,?_,?_⟩
    ·rw[List.take_zero];show _=gF _ _ _ _ (ar++eM t e++[]) _ _ _
     rw[List.append_nil,vO]
     have e9:∀l4:List V,l4.length=4→(((((ar.map fun a=>a.ins.v)++l4).length:Nat):Int)-1)=((ar.length+3:Nat):Int):=fun l4 h=>by
      rw[List.length_append,List.length_map,h];exact H5
     rw[e9 _ rfl];rfl
    ·delta k v σ' hv;intro z582;first|subst z582|cases z582
     rw[List.getElem?_map,Option.map_eq_some_iff]at hv;injection hv with d hd rfl;have hdm:=hdo d (List.mem_of_getElem? hd)
     have hkl:k<ds.length:=by rw[List.getElem?_eq_some_iff]at hd;exact hd.1
     have htk:ds.take (k+1)=ds.take k++[d]:=by rw[List.take_add_one,hd];rfl
     have hdr:bu (ae m.procs) m.imps e (ds.take (k+1)) (ae m.procs e+4)=bu (ae m.procs) m.imps e (ds.take k) (ae m.procs e+4)++[gH (ae m.procs) m.imps e (ae m.procs e+4+k) d]:=by
      rw[htk,iB,List.length_take,Nat.min_eq_left (by omega)];rfl
     rw[hdr,←List.append_assoc]
     have hl1:(ar++eM t e++bu (ae m.procs) m.imps e (ds.take k) (ae m.procs e+4)).length=ae m.procs e+4+k:=by
      rw[List.length_append,List.length_append,hal,fJ,List.length_take,Nat.min_eq_left (by omega)];rfl
     rw[←hl1];generalize ar++eM t e++bu (ae m.procs) m.imps e (ds.take k) (ae m.procs e+4)=a1 at hl1;have hl2:a1.length≤110:=by exact H4 hl1 hsz hkl hdl
     have hf2:=pK a1
     have hm2:=vS a1
     obtain⟨dk,dm,dw⟩:=d;delta dk dm dw at *
     have hst:∀w,w<m.procs.length→((List.range m.procs.length).map fun e=>V.int (ae m.procs e:Nat))[((w:Nat):Int).toNat]?=some (.int (ae m.procs w:Nat)):=fun w hw=>by
      rw[Int.toNat_natCast,List.getElem?_map,List.getElem?_range hw];rfl
     have himpV:(m.imps.map fun i=>V.str (nm i))=(m.imps.map nm).map V.str:=by rw[List.map_map];rfl
     have himl:m.imps.length≤t:=bk (n:=t) (hm.asc.imp fun h=>Nat.ne_of_lt h) hm.imps
     cases dk with
     | own=>
      rw[xg];show TA _ _ (.tup [.str (ui.str .own),.str (nm dm),.int (dw:Nat)]) _ _ _
      unfold gF k5;fail "w";refine' aa (by fail "a") C.g_len ?_;fail "k";fail "w";refine bt (by fail "c") (by rw[List.length_map];omega) ?_;rw[List.length_map];first|(injection hdm with z586 z587;injection z587 with z588 hdw)|(obtain⟨_,_,hdw⟩:=hdm;delta hdw at *)
      dsimp only at hdw;fail "w";refine' aG (by nofun) ?_;refine ap ?_;fail "k";refine' aH slot_list_append (by rfl) rfl (by fail "c") ?_;refine' al .lst (hst dw hdw) (by exact B8 z588) (by exact yr hdw hpl) ?_;refine' ⟨by fail "g",?_⟩;refine am (by fail "b") (by rw[List.length_map];omega) ?_;fail "f";fail "w";refine' aG (by nofun) ?_;refine' bG ?_;refine' gA ?_ (IntMulOk.of_left (by decide +kernel));refine⟨by fail "g",?_⟩;refine aU ?_;fail "k";fail "w";refine dy (by fail "b") ?_ (by rw[List.length_map];exact AW hm2 hl1 hsz hkl hdl);rw[ch rV];fail "f";refine⟨by fail "d",?_⟩;rfl
     | held=>
      rw[vN];show TA _ _ (.tup [.str (ui.str .held),.str (nm dm),.int (dw:Nat)]) _ _ _
      unfold gF k5;fail "w";refine' aa (by fail "a") C.g_len ?_;fail "k";fail "w";refine bt (by fail "c") (by rw[List.length_map];omega) ?_;rw[List.length_map];first|(injection hdm with z589 z590;injection z590 with z591 hdw)|(obtain⟨_,_,hdw⟩:=hdm;delta hdw at *)
      dsimp only at hdw;fail "w";refine' ak (by nofun) ?_;refine' aG (by nofun) ?_;refine ap ?_;fail "k";refine' aH slot_list_append (by rfl) rfl (by fail "c") ?_;refine' al .lst (hst dw hdw) (by exact B8 z591) (by exact yr hdw hpl) ?_;refine' ⟨by fail "g",?_⟩;refine' am (by fail "b") (by rw[List.length_map];omega) ?_;refine ap ?_;fail "k";refine' aH slot_list_append (by rfl) rfl (by fail "c") ?_;refine' ⟨by fail "g",?_⟩;refine am (by fail "b") (by rw[List.length_map];omega) ?_;fail "f";fail "w";refine ak (by nofun) ?_;fail "f";refine⟨by fail "d",?_⟩;rfl
     | away=>
      rw[vP];show TA _ _ (.tup [.str (ui.str .away),.str (nm dm),.int (dw:Nat)]) _ _ _
      unfold gF k5;fail "w";refine' aa (by fail "a") C.g_len ?_;fail "k";fail "w";refine bt (by fail "c") (by rw[List.length_map];omega) ?_;rw[List.length_map];injection hdm with hda _;dsimp only at hda;fail "w";refine' ak (by nofun) ?_;refine' ak (by nofun) ?_;refine ap ?_;fail "k";refine' aH slot_list_append (by rfl) rfl (by fail "c") ?_;refine' ⟨by fail "g",?_⟩;refine' am (by fail "b") (by rw[List.length_map];omega) ?_;refine ap ?_;fail "k";refine' aH slot_list_append (by rfl) rfl (by fail "c") ?_;refine' ap ?_;refine' aH PySem.F.slot_list_index (by rfl) rfl .lst ?_;refine' kz (us:=m.imps.map nm) (by rw[himpV];exact .lst) (by rw[List.length_map];exact H3 himl hj1 hl) (Cq hda) (wx hda fun x hx=>by have:=hm.imps x hx;exact yV this hj1 hl) ?_;refine' ⟨by fail "g",?_⟩;refine am (by fail "b") (by rw[List.length_map];omega) ?_;fail "f";fail "w";refine' aG (by nofun) ?_;refine' bG ?_;refine' gA ?_ (IntMulOk.of_left (by decide +kernel));refine⟨by fail "g",?_⟩;refine aU ?_;fail "k";fail "w";refine dy (by fail "b") ?_ (by rw[List.length_map];exact AW hm2 hl1 hsz hkl hdl);rw[ch rV];fail "f";refine⟨by fail "d",?_⟩;rfl
    ·delta σ';intro z593;first|subst z593|cases z593
     rw[List.length_map,List.take_length]
     have hbk:ar++mh t (ae m.procs) m.imps e ds=ar++eM t e++bu (ae m.procs) m.imps e ds (ae m.procs e+4)++jJ:=by
      unfold mh;rw[←List.append_assoc,←List.append_assoc]
     have hl1:(ar++eM t e++bu (ae m.procs) m.imps e ds (ae m.procs e+4)).length=ae m.procs e+4+ds.length:=by
      rw[List.length_append,List.length_append,hal,fJ];rfl
     rw[hbk,vM]at hJ;generalize ar++eM t e++bu (ae m.procs) m.imps e ds (ae m.procs e+4)=a1 at hl1 hJ
     have hst:((List.range m.procs.length).map fun e=>V.int (ae m.procs e:Nat))[((e:Nat):Int).toNat]?=some (.int (ae m.procs e:Nat)):=by
      rw[Int.toNat_natCast,List.getElem?_map,List.getElem?_range he1];rfl
     unfold gF k5;show dl _ _ _ _ _
     refine' bq (mj ?_);refine mO C (by fail "e") (by fail "e") ?_;refine' bG ?_;refine' ⟨by fail "g",?_⟩;refine' ⟨by fail "g",?_⟩;refine' ⟨by fail "g",?_⟩;refine⟨by fail "g",?_⟩;refine i6 (by fail "b") .lst ?_ (by rw[List.length_map];simp;exact H0 hl1 hsz hdl);refine' mN C (by fail "e") (by fail "b") ?_;refine ap ?_;fail "k";refine' aH slot_list_append (by rfl) rfl (by fail "c") ?_;refine' al .lst hst (by exact hU) (by exact yr he1 hpl) ?_;refine' ⟨by fail "g",?_⟩;refine' am (by fail "b") (by simp;exact Bb he1 hpl) ?_;refine al .lst hst (by exact hU) (by exact yr he1 hpl) ?_;refine aU ?_;fail "k";fail "w";refine' aa (by fail "a") C.g_str ?_;refine' qp (by exact B6 he1 (Nat.le_trans hpl (by decide))) ?_;refine iJ ?_ (pR (by omega));refine f0 (by fail "b") ?_ (by simp;exact Bc he1 hpl)
     have hnew:("P"++Str.ofString (toString ((e:Nat):Int)):Str)∉(((List.range e).map fun e=>(eE e,ae m.procs e)).map cC).map (fun U=>U.1):=by
      rw[List.map_map,List.map_map];intro h;obtain⟨j,hj,e5⟩:=List.mem_map.mp h;rw[List.mem_range]at hj;exact sj hj (by omega) e5
     rw[ch hnew];fail "f";refine⟨by fail "d",?_⟩;rw[←hJ,List.range_succ,List.map_append,List.map_append,List.map_append,List.map_append];rfl
    ·exact IntMulOk.of_left (by decide +kernel)
   ·delta σ';intro z594;first|subst z594|cases z594
    rw[List.length_map,List.length_range,Int.toNat_natCast,List.take_length];unfold gF k5;fail "w";refine gA ?_ (IntMulOk.of_left (by decide +kernel));fail "p";fail "w";refine' bG ?_;refine' ⟨by fail "g",?_⟩;refine⟨by fail "g",?_⟩;fail "p";show dl _ _ _ _ _
    refine' bq (eN (bA ?_));refine⟨_,_,Cr (d:=⟨x,dx,im,ro,wo,df,fx,en,po,mp,cm⟩),?_⟩;rw[←hs0];refine' aU ?_;have hle:(eJ (W.take t)).length≤10000:=by have:=congrArg List.length (ja (W.take t));rw[List.length_map]at this;rw[this];simp[aL];exact GW hj1 hl
    refine f0 (by fail "b") ?_ hle;fail "f";refine⟨by fail "d",?_⟩;have htl:(W.take t).length=t:=by rw[List.length_take];exact GV hj1
    have hs:=sJ (W:=W.take t) (m:=m) (by exact GU htl hj1 hl)
    rw[htl]at hs;have htk:W.take (t+1)=W.take t++[m]:=by rw[List.take_add_one,hWt];rfl
    have hr:((fE t m).ar.map bR.ins).map aN.v=(fE t m).ar.map fun a=>a.ins.v:=List.map_map ..
    have hi:(fE t m).imps.map lC=m.imps.map fun i=>lC (nm i,50+(i:Nat)):=List.map_map ..
    rw[htk,←hs];unfold RO.v RO.kvs;unfold eC RO.rows;rw[hr,hi];rfl
 ·delta σ';intro z595;first|subst z595|cases z595
  rw[List.length_map,List.length_range,Int.toNat_natCast,List.take_length];fail "w";exact⟨_,σ,ay.trans (ay.dS .here) (ay.drop (List.Sublist.cons _ (List.Sublist.refl _))),q⟩
end
theorem vq {x:Str}:∀{o:List Str},(o.map V.str).any (Lp x)=decide (x∈o)
 | []=>rfl
 | y::r=>by
  erw[List.map_cons,List.any_cons,vq];show((y==x)||_)=_
  by_cases h:y=x
  ·subst h;simp
  ·have h':¬x=y:=fun e=>h e.symm
   simp[h,h']
section
variable {F:bz} {objs:List (Str×V)} (O:F.Ok objs)
include O
theorem kU {k:Nat} (h:∀(x:Str) (o:List Str),F.rank x<k→x∈F.names→o.Nodup→(∀z∈o,z∈F.names)→(F.need x o).Nodup∧(∀z∈F.need x o,z∈F.names)∧∀z∈F.need x o,z∈o∨F.rank z≤F.rank x):
 ∀(l:List Str) (o:List Str),(∀x∈l,F.rank x<k∧x∈F.names)→o.Nodup→(∀z∈o,z∈F.names)→(l.foldl (fun a y=>F.need y a) o).Nodup∧(∀z∈l.foldl (fun a y=>F.need y a) o,z∈F.names)∧∀z∈l.foldl (fun a y=>F.need y a) o,z∈o∨F.rank z<k
 | [],o,_,h1,h2=>⟨h1,h2,fun z hz=>.inl hz⟩
 | x::r,o,hl,h1,h2=>by
  obtain⟨h3,h4,h5⟩:=h x o (hl x (.head _)).1 (hl x (.head _)).2 h1 h2;obtain⟨h6,h7,h8⟩:=kU h r (F.need x o) (fun y hy=>hl y (.tail _ hy)) h3 h4;erw[List.foldl_cons];refine⟨h6,h7,fun z hz=>?_⟩;rcases h8 z hz with h9|h9
  ·rcases h5 z h9 with h|h
   ·exact .inl h
   ·have:=(hl x (.head _)).1;exact .inr (by omega)
  ·exact .inr h9
theorem mq:∀(k:Nat) (x:Str) (o:List Str),F.rank x<k→x∈F.names→o.Nodup→(∀z∈o,z∈F.names)→(F.need x o).Nodup∧(∀z∈F.need x o,z∈F.names)∧∀z∈F.need x o,z∈o∨F.rank z≤F.rank x
 | 0,_,_,h,_,_,_=>by omega
 | k+1,x,o,hr,hx,h1,h2=>by
  erw[gl O hx];by_cases ho:x∈o
  ·erw[if_pos ho];exact⟨h1,h2,fun z hz=>.inl hz⟩
  ·erw[if_neg ho];obtain⟨h3,h4,h5⟩:=kU O (k:=F.rank x) (fun y o hy=>mq k y o (by exact s8 hy hr)) (F.imp x) o (fun y hy=>⟨(ec O hx hy).2,(ec O hx hy).1⟩) h1 h2;refine⟨?_,fun z hz=>?_,fun z hz=>?_⟩
   ·erw[List.nodup_append];refine⟨h3,by simp,fun a ha b hb=>?_⟩;rw[List.mem_singleton]at hb;subst hb;intro e;subst e;rcases h5 a ha with h|h
    ·exact ho h
    ·exact Bo h
   ·rw[List.mem_append,List.mem_singleton]at hz;rcases hz with hz|rfl
    ·exact h4 z hz
    ·exact hx
   ·rw[List.mem_append,List.mem_singleton]at hz;rcases hz with hz|rfl
    ·rcases h5 z hz with h|h
     ·exact .inl h
     ·exact .inr (by omega)
    ·exact .inr (Nat.le_refl _)
end
section
variable (C:kq) {n:Nat}
include C
theorem rh {F:bz} {objs:List (Str×V)} (O:F.Ok objs) {wd:List (Str×V)} (hwd:∀x∈F.names,∃w2,aB wd x=some (.tup [.lst ((F.imp x).map V.str),w2])):∀(k:Nat) {σ:aj} {Q:V→aj→Prop} {x:Str} {o:List Str} {fa:Addr},
 F.rank x<k→x∈F.names→o.Nodup→(∀z∈o,z∈F.names)→Q (.loc fa) ((fa,.lst ((F.need x o).map V.str))::σ)→TF (n+k) 329 [.dS wd,.str x,.loc fa] ((fa,.lst (o.map V.str))::σ) Q:=by
 delta C n F objs O wd hwd at ⊢;have hK:=C.hK
 delta k;induction k with
 | zero=>intros;omega
 | succ k ih=>
  delta k ih at ⊢;delta σ Q x o fa hr hx hon hos q;refine aW (by erw[hK];rfl) rfl rfl (by erw[hK];nofun) (by nofun) (by nofun) (md fun U U U=>rfl) ?_;delta c;fail "j";fail "w";refine ux (Lp x) (by fail "c") Cx ?_;erw[vq];fail "w";rw[gl O hx]at q;by_cases ho:x∈o
  ·rw[if_pos ho]at q;erw[decide_eq_true ho];fail "f";fail "w";refine' aw ?_;exact q
  ·rw[if_neg ho]at q;erw[decide_eq_false ho];fail "w";injection (hwd x hx)with w2 hw2;have hfold:=kU O (k:=F.rank x) (fun y o U=>mq O (F.rank y+1) y o (by omega))
   refine' aO (fun i σ'=>σ'=(fa,.lst ((((F.imp x).take i).foldl (fun a y=>F.need y a) o).map V.str))::σ) ?_;refine' bo .dS hw2 ?_;refine⟨trivial,_,.lst,by erw[List.take_zero];rfl,?_,?_⟩
   ·delta i v σ' hv;intro z596;first|subst z596|cases z596
    rw[List.getElem?_map,Option.map_eq_some_iff]at hv;injection hv with y hy rfl;have hyi:=ec O hx (List.mem_of_getElem? hy)
    have ht:(F.imp x).take (i+1)=(F.imp x).take i++[y]:=by erw[List.take_add_one,hy];rfl
    obtain⟨h1,h2,-⟩:=hfold ((F.imp x).take i) o (fun z hz=>⟨(ec O hx (List.mem_of_mem_take hz)).2,(ec O hx (List.mem_of_mem_take hz)).1⟩) hon hos;delta h1 h2 at *;erw[ht,List.foldl_append];generalize ((F.imp x).take i).foldl (fun a y=>F.need y a) o=o1 at h1 h2;fail "w";refine' aa (by fail "a") C.g__law_needed ?_;refine aJ (ih (by exact Nat.lt_of_lt_of_le hyi.2 (Nat.le_of_lt_succ (by assumption))) hyi.1 h1 h2 ?_);fail "f";exact⟨by fail "d",rfl⟩
   ·delta σ';intro z599;first|subst z599|cases z599
    obtain⟨h1,h2,-⟩:=hfold (F.imp x) o (fun z hz=>⟨(ec O hx hz).2,(ec O hx hz).1⟩) hon hos;delta h1 h2 at *;have h3:=ei h1 h2
    have hfew:=O.few
    erw[List.length_map,List.take_length];fail "w";refine' ap ?_;refine' aH slot_list_append (by rfl) rfl (by fail "c") ?_;refine am (by fail "b") (by erw[List.length_map];omega) ?_;fail "f";fail "w";rw[List.map_append]at q;exact q
end
def rk (p:Nat×Nat):Nat:=4*p.1+3-p.2
def aq (W:Wd) (p:Nat×Nat):List bg:=match W[p.1]? with
 | some m=>(m.procs[p.2]?).getD []
 | none=>[]
def PV (W:Wd) (p:Nat×Nat):Prop:=∃m,W[p.1]?=some m∧p.2<m.procs.length
def bg.to (d:bg):Nat×Nat:=(d.m,d.w)
def bg.calls (d:bg):Bool:=decide (d.k≠.held)
theorem dB {W:Wd} (hW:dj W) {p:Nat×Nat} (hp:PV W p) {d:bg} (hd:d∈aq W p):PV W d.to∧rk d.to<rk p∧(d.k≠.away→d.m=p.1)∧(d.k=.away→d.m<p.1):=by
 obtain⟨m,hm,he⟩:=hp;obtain⟨t,e⟩:=p;dsimp only at hm he;have hO:=hW t m hm
 have hds:m.procs[e]?=some m.procs[e]:=List.getElem?_eq_getElem he
 unfold aq at hd;dsimp only at hd;rw[hm]at hd;dsimp only at hd;rw[hds]at hd;have h1:=hO.deeds e _ hds d hd
 have h3:=hO.few
 obtain⟨k,dm,dw⟩:=d;delta W m t e k dm dw at hW hm he hO hds h3 hd h1;unfold ef at h1;cases k with
 | away=>
  obtain⟨h4,m',h5,h6⟩:=h1;dsimp only at h4 h5 h6;have h7:=hO.imps dm h4
  exact⟨⟨m',h5,h6⟩,by unfold rk bg.to;dsimp only;exact GT h7 he h3,fun h=>absurd rfl h,fun U=>h7⟩
 | own=>
  obtain⟨h4,h5,h6⟩:=h1;dsimp only at h4 h5 h6;subst h4;exact⟨⟨m,hm,h6⟩,by unfold rk bg.to;dsimp only;exact AV h6 h5 h3,fun U=>rfl,fun h=>by cases h⟩
 | held=>
  obtain⟨h4,h5,h6⟩:=h1;dsimp only at h4 h5 h6;subst h4;exact⟨⟨m,hm,h6⟩,by unfold rk bg.to;dsimp only;exact AV h6 h5 h3,fun U=>rfl,fun h=>by cases h⟩
theorem gU {W:Wd} (hW:dj W) (p:Nat×Nat):(aq W p).length≤if p.2=0 then 2 else 1:=by
 delta W hW p at ⊢;unfold aq;cases h:W[p.1]? with
 | none=>dsimp only;split<;>simp
 | some m=>
  dsimp only;cases h2:m.procs[p.2]? with
  | none=>simp
  | some ds=>exact(hW _ m h).short p.2 ds h2
def kx (W:Wd):Nat→Nat×Nat→List Int
 | 0,_=>[]
 | f+1,p=>(100*(p.1:Int)+(p.2:Nat))::(900+(p.1:Int))::((aq W p).filter bg.calls).flatMap fun d=>kx W f d.to
theorem vE {W:Wd} {p:Nat×Nat}:kx W 0 p=[]:=rfl
theorem fN {W:Wd} {f:Nat} {p:Nat×Nat}:kx W (f+1) p=(100*(p.1:Int)+(p.2:Nat))::(900+(p.1:Int))::((aq W p).filter bg.calls).flatMap fun d=>kx W f d.to:=rfl
def f8 (W:Wd) (p:Nat×Nat):List Int:=kx W (rk p+1) p
theorem ij {α β:Type} {f g:α→List β}:∀{l:List α},(∀y∈l,f y=g y)→l.flatMap f=l.flatMap g
 | [],_=>rfl
 | y::r,h=>by erw[List.flatMap_cons,List.flatMap_cons,h y (.head _),ij fun z hz=>h z (.tail _ hz)]
theorem mG {W:Wd} (hW:dj W):∀(f g:Nat) {p:Nat×Nat},PV W p→rk p<f→rk p<g→kx W f p=kx W g p
 | 0,_,_,_,h,_=>by omega
 | _,0,_,_,_,h=>by omega
 | f+1,g+1,p,hp,hf,hg=>by
  erw[fN,fN];erw[ij fun d hd=>mG hW f g (dB hW hp (List.mem_filter.mp hd).1).1 (by have:=(dB hW hp (List.mem_filter.mp hd).1).2.1;exact s8 this hf) (by have:=(dB hW hp (List.mem_filter.mp hd).1).2.1;exact s8 this hg)]
theorem uq {W:Wd} (hW:dj W) {p:Nat×Nat} (hp:PV W p):f8 W p=(100*(p.1:Int)+(p.2:Nat))::(900+(p.1:Int))::((aq W p).filter bg.calls).flatMap fun d=>f8 W d.to:=by
 unfold f8;erw[fN];erw[ij fun d hd=>mG hW (rk p) (rk d.to+1) (dB hW hp (List.mem_filter.mp hd).1).1 (by have:=(dB hW hp (List.mem_filter.mp hd).1).2.1;omega) (by omega)]
theorem j8 {α β:Type} {f:α→List β} {k:Nat}:∀{l:List α},(∀y∈l,(f y).length≤k)→(l.flatMap f).length≤l.length*k
 | [],_=>by simp
 | y::r,h=>by
  erw[List.flatMap_cons,List.length_append,List.length_cons,Nat.succ_mul];have h1:=h y (.head _)
  have h2:=j8 (l:=r) fun z hz=>h z (.tail _ hz)
  exact AU h1 h2
theorem pG {W:Wd} (hW:dj W):∀(f:Nat) (p:Nat×Nat),(kx W f p).length+2≤2 ^ (f+1)
 | 0,_=>by simp[vE,fN]
 | f+1,p=>by
  erw[fN,List.length_cons,List.length_cons];have h1:=j8 (l:=(aq W p).filter bg.calls) (f:=fun d=>kx W f d.to) (k:=2 ^ (f+1)-2) fun d U=>by have:=pG hW f d.to;exact GS this
  have h2:=List.length_filter_le bg.calls (aq W p)
  have h3:=gU hW p
  have h4:((aq W p).filter bg.calls).length≤2:=by split at h3<;>omega
  have h5:((aq W p).filter bg.calls).length*(2 ^ (f+1)-2)≤2*(2 ^ (f+1)-2):=Nat.mul_le_mul_right _ h4
  have h6:2≤2 ^ (f+1):=by erw[Nat.pow_succ];have:=Nat.one_le_two_pow (n:=f);exact GR this
  erw[Nat.pow_succ 2 (f+1)];exact GP h6 h1 h5
theorem mF {W:Wd} (hW:dj W) {p:Nat×Nat} (h:rk p≤11):(f8 W p).length≤10000:=by
 have h1:=pG hW (rk p+1) p
 have h2:2 ^ (rk p+1+1)≤2 ^ 13:=Nat.pow_le_pow_right (by omega) (by exact GO h)
 unfold f8;have h3:(2:Nat) ^ 13=8192:=by decide
 exact GN h1 h2
theorem PV.rk {W:Wd} (hl:W.length≤3) {p:Nat×Nat} (hp:PV W p):rk p≤11∧p.1<W.length:=by
 obtain⟨m,hm,_⟩:=hp;rw[List.getElem?_eq_some_iff]at hm;obtain⟨h,_⟩:=hm;unfold Mine.Internal.rk;exact⟨by exact GM h hl,h⟩
section
variable (C:kq) {n:Nat}
include C
theorem oq {W:Wd} (hW:dj W) (hl:W.length≤3):∀(k:Nat) {σ:aj} {Q:V→aj→Prop} {p:Nat×Nat} {acc:List Int} {ra:Addr},
 rk p<k→PV W p→acc.length+(f8 W p).length≤900000→Q (.loc ra) ((ra,.lst ((acc++f8 W p).map V.int))::σ)→
 TF (n+k) 336 [.lst ((aL W.length).map V.str),.dS (oN W),.str (nm p.1),.int (p.2:Nat),.loc ra] ((ra,.lst (acc.map V.int))::σ) Q:=by
 delta C n W hW hl at ⊢
 have hK:=C.hK
 intro k
 induction k with
 | zero=>intros;omega
 | succ k ih=>
  intro σ Q p acc ra hr hp hz q
  delta k σ Q p acc ra at ih hr hp hz q
  refine aW (by erw[hK];rfl) rfl rfl (by erw[hK];nofun) (by nofun) (by nofun) (Li fun U U U U U=>rfl) fun c=>?_
  fail "j"
  fail "w"
  have hp2:=hp
  obtain⟨m,hm,he⟩:=hp
  have hpl:=PV.rk hl hp2
  have hds:m.procs[p.2]?=some m.procs[p.2]:=List.getElem?_eq_getElem he
  obtain⟨ds,hds⟩:=tT hds
  have hdd:aq W p=ds:=by unfold aq;erw[hm];dsimp only;erw[hds];rfl
  have hdf:=gU hW p
  have hdok:=fun d=>dB hW hp2 (d:=d)
  rw[uq hW hp2] at q hz
  rw[hdd] at q hz hdf hdok
  have hdl:ds.length≤2:=by split at hdf<;>omega
  have hp2few:=(hW p.1 m hm).few
  simp only[List.length_cons] at hz
  refine' ap ?_
  refine' aH PySem.F.slot_list_index (by rfl) rfl .lst ?_
  refine' kz .lst (by simp[aL];omega) (iS hpl.2) (iR hl hpl.2) ?_
  refine lk (by fail "a") ?_
  refine' bG ?_
  refine' gA ?_ (IntMulOk.of_left (by decide +kernel))
  refine⟨by fail "g",?_⟩
  refine i6 (by fail "b") .lst ?_ (by erw[List.length_map];simp;exact GL hz)
  refine' ⟨_,by fail "m",?_⟩
  have hfull:∀i,((ds.take i).filter bg.calls).flatMap (fun d=>f8 W d.to)++((ds.drop i).filter bg.calls).flatMap (fun d=>f8 W d.to)=(ds.filter bg.calls).flatMap fun d=>f8 W d.to:=fun i=>by
   erw[←List.flatMap_append,←List.filter_append,List.take_append_drop]
  refine' aO (fun i σ'=>σ'=(ra,.lst ((acc++[100*(p.1:Int)+(p.2:Nat),900+(p.1:Int)]++((ds.take i).filter bg.calls).flatMap fun d=>f8 W d.to).map V.int))::σ) ?_
  refine bo .dS (jh hl hm) ?_
  unfold pg
  fail "w"
  refine al (v:=.lst (ds.map m7)) .lst (by erw[Int.toNat_natCast,List.getElem?_map,hds];rfl) (by exact hU) (by exact yr he hp2few) ?_
  refine⟨trivial,_,.lst,?_,?_,?_⟩
  ·erw[List.take_zero]
   simp
  ·rintro i v σ' hv rfl
   rw[List.getElem?_map,Option.map_eq_some_iff] at hv
   obtain⟨d,hd,rfl⟩:=hv
   have ht:ds.take (i+1)=ds.take i++[d]:=by erw[List.take_add_one,hd];rfl
   obtain⟨hd1,hd2,hd3,hd4⟩:=hdok d (List.mem_of_getElem? hd)
   have hle:=congrArg List.length (hfull (i+1))
   rw[List.length_append] at hle
   have hstep:((ds.take (i+1)).filter bg.calls).flatMap (fun d=>f8 W d.to)=((ds.take i).filter bg.calls).flatMap (fun d=>f8 W d.to)++(if d.calls then f8 W d.to else[]):=by
    erw[ht,List.filter_append,List.flatMap_append]
    cases hc:d.calls<;>simp[hc]
   rw[hstep] at hle ⊢
   rw[List.length_append] at hle
   generalize ((ds.take i).filter bg.calls).flatMap (fun d=>f8 W d.to)=tk at hle
   show TA _ _ (.tup [.str d.k.str,.str (nm d.m),.int (d.w:Nat)]) _ _ _
   have hgo:d.calls=true→TF (n+k) 336 [.lst ((aL W.length).map V.str),.dS (oN W),.str (nm d.m),.int (d.w:Nat),.loc ra] ((ra,.lst ((acc++[100*(p.1:Int)+(p.2:Nat),900+(p.1:Int)]++tk).map V.int))::σ)
    fun v σ'=>σ'=(ra,.lst ((acc++[100*(p.1:Int)+(p.2:Nat),900+(p.1:Int)]++tk++f8 W d.to).map V.int))::σ:=fun hc=>by
    refine ih (p:=d.to) (by exact s8 hd2 hr) hd1 ?_ rfl
    rw[hc,if_pos rfl] at hle
    simp only[List.length_append,List.length_cons,List.length_nil]
    exact GK hz hle
   fail "w"
   obtain⟨dk,dm,dw⟩:=d
   cases dk with
   | held=>
    refine ak (by nofun) ?_
    fail "f"
    refine⟨by fail "d",?_⟩
    show _=(ra,bp.lst ((acc++_++(tk++[])).map V.int))::σ
    erw[List.append_nil]
   | own=>
    refine' aG (by nofun) ?_
    refine' aa (by fail "a") C.g__law_told ?_
    refine aJ ((hgo rfl).mono fun v σ' h=>?_)
    subst h
    fail "f"
    refine⟨by fail "d",?_⟩
    show _=(ra,bp.lst ((acc++_++(tk++f8 W _)).map V.int))::σ
    erw[←List.append_assoc]
   | away=>
    refine' aG (by nofun) ?_
    refine' aa (by fail "a") C.g__law_told ?_
    refine aJ ((hgo rfl).mono fun v σ' h=>?_)
    subst h
    fail "f"
    refine⟨by fail "d",?_⟩
    show _=(ra,bp.lst ((acc++_++(tk++f8 W _)).map V.int))::σ
    erw[←List.append_assoc]
  ·rintro σ' rfl
   erw[List.length_map,List.take_length]
   fail "w"
   erw[List.append_assoc]
   exact q
end
def wk (ca da:Int) (a:aT):aN:=match a.fx with
 | none=>a.ins
 | some true=>a.ins.setThree (a.ins.three+ca)
 | some false=>a.ins.setThree (a.ins.three+da)
def dW (J:JO) (ca da:Int):List aN:=J.ar.map (wk ca da)
def pi (ca da:Int) (ks:List Nat) (l:List aT):List aN:=l.zipIdx.map fun p=>if p.2∈ks then wk ca da p.1 else p.1.ins
theorem sn {ca da:Int} {ks:List Nat} {l:List aT}:(pi ca da ks l).length=l.length:=by simp[pi]
theorem iV {ca da:Int} {ks:List Nat} {l:List aT} {j:Nat}:(pi ca da ks l)[j]?=(l[j]?).map fun a=>if j∈ks then wk ca da a else a.ins:=by
 unfold pi;erw[List.getElem?_map,List.getElem?_zipIdx,Option.map_map];cases l[j]?<;>simp
theorem xB {ca da:Int} {ks:List Nat} {l:List aT} {j:Nat} {a:aT} (h:l[j]?=some a):(pi ca da ks l).set j (wk ca da a)=pi ca da (ks++[j]) l:=by
 delta ca da ks l j a h at ⊢;apply List.ext_getElem?;delta i;erw[List.getElem?_set,iV,iV,sn];by_cases e:j=i
 ·subst e;have:j<l.length:=by rw[List.getElem?_eq_some_iff]at h;exact h.1
  erw[if_pos rfl,h,if_pos this];simp
 ·erw[if_neg e];simp[Ne.symm e]
set_option tactic.hygienic true in
theorem xC {ca da:Int} {l:List aT}:pi ca da ((b7 l 0).map (fun U=>U.1)) l=l.map (wk ca da):=by
 delta ca da l at ⊢;apply List.ext_getElem?;delta i;erw[iV,List.getElem?_map];cases h:l[i]? with
 | none=>rfl
 | some a=>
  delta a at *;simp only[Option.map_some];congr 1;split
  ·rfl
  ·rename_i hn;unfold wk;cases hf:a.fx with
   | none=>rfl
   | some f=>exact absurd (List.mem_map.mpr ⟨(i,f),j9.mpr ⟨a,Nat.zero_le _,h,hf⟩,rfl⟩) hn
theorem wb {ca da:Int} {l:List aT}:pi ca da [] l=l.map aT.ins:=by
 delta ca da l at ⊢;apply List.ext_getElem?;delta i;erw[iV,List.getElem?_map];cases l[i]?<;>simp
def eS:List (Int×Int)→Int→Option Int
 | [],_=>none
 | (k,v)::r,x=>if k=x then some v else eS r x
theorem o0 {x:Int}:eS [] x=none:=rfl
theorem jA {k v x:Int} {r:List (Int×Int)}:eS ((k,v)::r) x=if k=x then some v else eS r x:=rfl
def bE:List (Int×Int)→Int→Int→List (Int×Int)
 | [],x,v=>[(x,v)]
 | (k,u)::r,x,v=>if k=x then(k,v)::r else(k,u)::bE r x v
theorem mU {x v:Int}:bE [] x v=[(x,v)]:=rfl
theorem gG {k u x v:Int} {r:List (Int×Int)}:bE ((k,u)::r) x v=if k=x then(k,v)::r else(k,u)::bE r x v:=rfl
def wc (p:Int×Int):Int×V:=(p.1,.int p.2)
theorem vb:∀{m:List (Int×Int)} {x:Int},aB (m.map wc) x=(eS m x).map V.int
 | [],_=>rfl
 | (k,v)::r,x=>by
  erw[jA,List.map_cons];show aB ((k,V.int v)::_) x=_
  erw[b0];split
  ·rfl
  ·exact vb
theorem qC:∀{m:List (Int×Int)} {x v:Int},bj (m.map wc) x (.int v)=(bE m x v).map wc
 | [],_,_=>rfl
 | (k,u)::r,x,v=>by
  erw[gG,List.map_cons];show bj ((k,V.int u)::_) x _=_
  erw[bn];split
  ·rfl
  ·erw[qC];rfl
theorem mV:∀(m:List (Int×Int)) (x v:Int),(bE m x v).length≤m.length+1
 | [],_,_=>by simp[mU,gG]
 | (k,u)::r,x,v=>by
  erw[gG];split
  ·simp
  ·have:=mV r x v;simp;omega
theorem dd (m:List (Int×Int)) (x v y:Int):eS (bE m x v) y=if y=x then some v else eS m y:=by
 delta m x v y at ⊢;induction m with
 | nil=>simp only[mU,gG,o0,jA];by_cases h:x=y
        ·subst h;simp
        ·erw[if_neg h,if_neg (fun e=>h e.symm)]
 | cons p r ih=>
  delta p r ih at *;obtain⟨k,u⟩:=p;delta k u at *;simp only[mU,gG];by_cases h:k=x
  ·subst h;simp only[if_true,o0,jA];by_cases h2:k=y
   ·subst h2;simp
   ·erw[if_neg h2,if_neg (fun e=>h2 e.symm),if_neg h2]
  ·simp only[if_neg h,o0,jA,ih];by_cases h2:k=y
   ·subst h2;simp[h]
   ·simp[h2]
structure Em where
 here:Int
 regs:List Int
 mem:List (Int×Int)
 heard:List Int
 deriving Nonempty
def Em.reg (s:Em) (i:Int):Int:=(s.regs[i.toNat]?).getD 0
def Em.step (s:Em):aN→Em
 | .reg .movi a _ k=>{ s with here:=s.here+1,regs:=s.regs.set a.toNat k,heard:=if a=0 then s.heard++[k]else s.heard }
 | .reg .mov a _ k=>{ s with here:=s.here+1,regs:=s.regs.set a.toNat (s.reg k) }
 | .reg .subi a b k=>{ s with here:=s.here+1,regs:=s.regs.set a.toNat (s.reg b-k) }
 | .reg .addi a b k=>{ s with here:=s.here+1,regs:=s.regs.set a.toNat (s.reg b+k) }
 | .reg .str a b k=>{ s with here:=s.here+1,mem:=bE s.mem (s.reg b+k) (s.reg a) }
 | .reg .ldr a b k=>{ s with here:=s.here+1,regs:=s.regs.set a.toNat ((eS s.mem (s.reg b+k)).getD 0),heard:=if a=1 then s.heard++[(eS s.mem (s.reg b+k)).getD 0]else s.heard }
 | .bl t _=>{ s with here:=s.here+1+t,regs:=s.regs.set 15 (s.here+1) }
 | .br r _=>{ s with here:=s.reg r }
def vt:aN→Prop
 | .reg op a b k=>0≤a∧a<16∧0≤b∧b<16∧(op=.mov→0≤k∧k<16)
 | .bl _ _=>True
 | .br r _=>0≤r∧r<16
inductive jf (rows:List aN) (ca:Int):Em→Em→Nat→Prop
 | nil {s:Em}:jf rows ca s s 0
 | cons {s s':Em} {r:aN} {k:Nat}:ca≤s.here→rows[(s.here-ca).toNat]?=some r→vt r→jf rows ca (s.step r) s' k→jf rows ca s s' (k+1)
theorem jf.trans {rows:List aN} {ca:Int} {s s' s'':Em} {k k':Nat} (h:jf rows ca s s' k) (h':jf rows ca s' s'' k'):jf rows ca s s'' (k+k'):=by
 induction h with
 | nil=>erw[Nat.zero_add];exact h'
 | cons h1 h2 h3 _ ih=>erw[Nat.add_right_comm];exact .cons h1 h2 h3 (ih h')
def dA (J:JO) (ca da:Int) (first:Nat):Em where
 here:=ca+(first:Nat)
 regs:=((List.replicate 16 (0:Int)).set 14 100000).set 15 (-1)
 mem:=J.words.foldl (fun m p=>bE m (da+p.1) p.2) []
 heard:=[]
theorem fc (s:Em) (r:aN):(s.step r).regs.length=s.regs.length∧(s.step r).mem.length≤s.mem.length+1∧(s.step r).heard.length≤s.heard.length+1:=by
 delta s r at ⊢;cases r with
 | reg op a b k=>
  have:=mV s.mem (s.reg b+k) (s.reg a)
  cases op<;>simp only[Em.step,List.length_set]<;>refine⟨trivial,?_,?_⟩<;>(try split)<;>(try simp only[List.length_append,List.length_cons,List.length_nil])<;>omega
 | bl t k=>simp[Em.step]
 | br r k=>simp[Em.step]
theorem lE (da:Int):∀(l:List (Int×Int)) (m:List (Int×Int)),(l.foldl (fun m p=>bE m (da+p.1) p.2) m).length≤m.length+l.length
 | [],m=>by simp
 | p::r,m=>by
  erw[List.foldl_cons];have h1:=lE da r (bE m (da+p.1) p.2)
  have h2:=mV m (da+p.1) p.2
  simp;exact Cf h1 h2
theorem k9 {s:Em} (h:s.regs.length=16) {b:Int} (h0:0≤b) (h1:b<16):(s.regs.map V.int)[b.toNat]?=some (.int (s.reg b)):=by
 unfold Em.reg;rw[List.getElem?_map,List.getElem?_eq_getElem (by exact GH h1 h)];rfl
theorem y6 {o:Option Int}:(o.map V.int).getD (.int 0)=.int (o.getD 0):=by cases o<;>rfl
section
variable (C:kq) {n:Nat} {σ:aj} {Q:V→aj→Prop}
include C
theorem qi {J:JO} {ca da:Int} {first:Nat} {k:Nat} {s':Em} (hz:J.ar.length≤1000) (hwz:J.words.length≤1000) (hca:1≤ca) (hca2:ca≤1000)
 (run:jf (dW J ca da) ca (dA J ca da first) s' k) (hk:k<6000) (hend:s'.here=-1) (hsp:s'.regs[14]?=some 100000) (q:Q (.lst (s'.heard.map V.int)) σ):TF (n+1) 343 [J.v,.int ca,.int da,.int (first:Nat)] σ Q:=by
 delta C n σ Q J ca da first k s' hz hwz hca hca2 run hk hend hsp q at ⊢
 have hK:=C.hK
 have hF1:(b7 J.ar 0).length≤1000:=by
  have:=bk (n:=J.ar.length) (dg J.ar 0) (fun j hj=>by obtain⟨p,hp,rfl⟩:=List.mem_map.mp hj;have:=(gq hp).2;exact vU this)
  rw[List.length_map]at this;omega
 refine cU (aW (by rw[hK];rfl) rfl rfl (by rw[hK];nofun) (by nofun) (by nofun) (xJ fun U U U U=>rfl) ?_);delta c;fail "j";fail "w";refine' aa (by fail "a") C.g_list ?_;fail "i";fail "w";refine eV .lst (by rw[cE];omega) ?_;delta ra;fail "w";refine aO (fun i σ'=>σ'=(ra,.lst ((pi ca da (((b7 J.ar 0).take i).map (fun U=>U.1)) J.ar).map aN.v))::σ) ?_;fail "i";refine⟨trivial,_,.lst,?_,?_,?_⟩
 ·rw[List.take_zero,List.map_nil,wb];rfl
 ·delta i v σ' hv;intro z600;first|subst z600|cases z600
  rw[List.getElem?_map,Option.map_eq_some_iff]at hv;first|((first|(injection (tU hv)with j z601;injection z601 with f z602)|(injection hv with z601 z602;injection z601 with j f));injection z602 with hj z603;(first|subst z603|cases z603))|(obtain⟨⟨j,f⟩,hj,rfl⟩:=hv)
  have hjm:=List.mem_of_getElem? hj
  have ht:(b7 J.ar 0).take (i+1)=(b7 J.ar 0).take i++[(j,f)]:=by rw[List.take_add_one,hj];rfl
  injection (j9.mp hjm)with a _ hja hfx;rw[Nat.sub_zero]at hja;have hjl:j<J.ar.length:=by rw[List.getElem?_eq_some_iff]at hja;exact hja.1
  have hnot:j∉((b7 J.ar 0).take i).map (fun U=>U.1):=by
   have hilt:i<(b7 J.ar 0).length:=by rw[List.getElem?_eq_some_iff]at hj;exact hj.1
   have hn:=dg J.ar 0
   have e4:(b7 J.ar 0).map (fun U=>U.1)=((b7 J.ar 0).take i).map (fun U=>U.1)++((b7 J.ar 0).drop i).map (fun U=>U.1):=by rw[←List.map_append,List.take_append_drop]
   rw[e4,List.nodup_append]at hn;intro h;refine hn.2.2 j h j ?_ rfl;rw[List.drop_eq_getElem_cons hilt];rw[List.getElem?_eq_some_iff]at hj;simp[hj.2]
  have hcur:((pi ca da (((b7 J.ar 0).take i).map (fun U=>U.1)) J.ar).map aN.v)[j]?=some a.ins.v:=by
   rw[List.getElem?_map,iV,hja];simp only[Option.map_some];rw[if_neg hnot]
  have hset:=xB (ca:=ca) (da:=da) (ks:=((b7 J.ar 0).take i).map (fun U=>U.1)) hja
  show TA _ _ (.tup [.int (j:Nat),.str (if f then "addr" else "data"),.int 0,.int 0]) _ _ _
  refine mM (fO (dr (by fail "m") (fO (dr (by fail "m") (fO (dr (by fail "m") (fO (dr (by fail "m") (qr ?_)))))))));refine bq (eN ?_);refine Aa (v:=.int (if f then ca else da)) ?_ ?_
  ·fail "w";cases f with
   | true=>
    refine' ak (by nofun) ?_;exact⟨rfl,rfl⟩
   | false=>
    refine' aG (by nofun) ?_;exact⟨rfl,rfl⟩
  fail "w";refine' al (v:=a.ins.v) (by fail "c") hcur (by exact hU) (by exact rt hjl hz) ?_;refine' al (v:=a.ins.v) (by fail "c") hcur (by exact hU) (by exact rt hjl hz) ?_;refine' al (v:=a.ins.v) (by fail "c") hcur (by exact hU) (by exact rt hjl hz) ?_;refine' al (v:=a.ins.v) (by fail "c") hcur (by exact hU) (by exact rt hjl hz) ?_;refine⟨by fail "g",?_⟩;refine' aU ?_;refine cb (by fail "b") (by exact hU) (by rw[List.length_map,sn];exact vW hjl) (by exact rt hjl hz) ?_;fail "f";refine⟨by fail "d",?_⟩
  have eA:(wk ca da a).v=.tup [.str a.ins.op,a.ins.one,.int a.ins.two,.int (a.ins.three+if f then ca else da)]:=by
   unfold wk;rw[hfx];cases f<;>cases a.ins<;>rfl
  rw[ht,List.map_append,List.map_singleton,←hset,List.map_set,eA];rfl
 delta σ';intro z607;first|subst z607|cases z607
 rw[List.length_map,List.take_length,xC];fail "w";refine f9 ?_;delta ce;fail "w";refine aO (fun i σ'=>σ'=(ce,.dI (((J.words.take i).foldl (fun m p=>bE m (da+p.1) p.2) []).map wc))::(ra,.lst ((J.ar.map (wk ca da)).map aN.v))::σ) ?_;fail "i";refine⟨trivial,_,.lst,by rw[List.take_zero];rfl,?_,?_⟩
 ·delta i v σ' hv;intro z608;first|subst z608|cases z608
  rw[List.getElem?_map,Option.map_eq_some_iff]at hv;first|((first|(injection (tU hv)with o z609;injection z609 with w z610)|(injection hv with z609 z610;injection z609 with o w));injection z610 with hj z611;(first|subst z611|cases z611))|(obtain⟨⟨o,w⟩,hj,rfl⟩:=hv)
  have ht:J.words.take (i+1)=J.words.take i++[(o,w)]:=by rw[List.take_add_one,hj];rfl
  have hml:=lE da (J.words.take i) []
  have htl:=List.length_take_le' i J.words
  rw[ht,List.foldl_append,List.foldl_cons,List.foldl_nil];generalize (J.words.take i).foldl (fun m p=>bE m (da+p.1) p.2) []=m at hml;simp only[List.length_nil]at hml;show TA _ _ (.tup [.int o,.int w]) _ _ _
  fail "w";refine' aU ?_;refine dy (by fail "b") ?_ (by rw[List.length_map];exact GG hml htl hwz);rw[qC];fail "f";exact⟨by fail "d",rfl⟩
 delta σ';intro z612;first|subst z612|cases z612
 rw[List.length_map,List.take_length];fail "w";refine' b8 ?_;refine⟨by fail "g",?_⟩;delta g;fail "w";refine x6 (vs:=[.int 0]) (by fail "c") (by omega) (by decide) (by omega) ?_;delta rg;have e0:(List.replicate (16:Int).toNat [V.int 0]).flatten=(List.replicate 16 (0:Int)).map V.int:=by rfl
 rw[e0];refine dr (by fail "m") ?_;show dl _ _ _ _ _
 refine' b5 (aC.drop (σ':=(rg,.lst ((List.replicate 16 (0:Int)).map V.int))::(ce,.dI ((J.words.foldl (fun m p=>bE m (da+p.1) p.2) []).map wc))::(ra,.lst ((J.ar.map (wk ca da)).map aN.v))::σ) (List.Sublist.cons₂ _ (List.Sublist.cons _ (List.Sublist.refl _)))) ?_;refine' aU ?_;refine' cb (by fail "b") (by omega) (by simp) (by omega) ?_;refine' aU ?_;refine' cb (by fail "b") (by omega) (by simp) (by omega) ?_;refine' b8 ?_;refine⟨by fail "g",?_⟩;delta he;fail "w";refine qo (fun i η' σ'=>∃s:Em,jf (dW J ca da) ca s s' (k-i)∧i≤k∧s.regs.length=16∧s.mem.length≤1000+i∧s.heard.length≤i∧η'=([("made",.val J.v),("code_at",.val (.int ca)),("data_at",.val (.int da)),("first_row",.val (.int (first:Nat))),("rows",.val (.loc ra)),("spot",.un),("kind",.un),("way",.un),("which",.un),("by",.un),("cells",.val (.loc ce)),("offset",.un),("value",.un),("regs_of",.val (.loc rg)),("here",.val (.int s.here)),("heard",.val (.loc he)),("_",.un),("name",.un),("one",.un),("two",.un),("three",.un),("list",.glb),("range",.glb),("len",.glb)]:aI)∧σ'=(he,.lst (s.heard.map V.int))::(rg,.lst (s.regs.map V.int))::(ce,.dI (s.mem.map wc))::(ra,.lst ((dW J ca da).map aN.v))::σ) ?_;refine' aa (by fail "a") C.g_range ?_;refine ez ?_;refine⟨⟨by omega,by omega⟩,_,.rng,⟨dA J ca da first,run,Nat.zero_le _,by simp[dA],?_,by simp[dA],rfl,rfl⟩,?_,?_⟩
 ·have:=lE da J.words []
  simp only[List.length_nil]at this;show(J.words.foldl (fun m p=>bE m (da+p.1) p.2) []).length≤_
  exact GF this hwz
 ·delta i v' η' σ₁ hv';intro z613;injection z613 with s hrun hik hrl hml hhl rfl rfl
  have hi6:i<6000:=by
   rw[List.getElem?_map,Option.map_eq_some_iff]at hv';obtain⟨j,hj,_⟩:=hv';rw[List.getElem?_eq_some_iff]at hj;obtain⟨hj1,_⟩:=hj;rw[List.length_range]at hj1;exact hj1
  injection (Option.map_eq_some_iff.mp (by rw[List.getElem?_map]at hv';exact hv'))with j hj rfl;fail "w";generalize hkm:k-i=km at hrun;cases hrun with
  | nil=>
   refine' aG (by rw[beq_iff_eq];exact GE hend) ?_;refine' al (v:=.int 100000) (by fail "c") (by show(s'.regs.map V.int)[14]?=_;rw[List.getElem?_map,hsp];rfl) (by omega) (by omega) ?_;refine' aG (by decide) ?_;refine⟨_,_,ay.trans (ay.lst .here) (ay.drop (List.Sublist.cons _ (List.Sublist.cons _ (List.Sublist.cons _ (List.Sublist.refl _))))),q⟩
  | @cons _ _ r km h1 h2 h3 hrun=>
   have hk1:k-(i+1)=km:=by exact GD hkm hik
   rw[←hk1]at hrun;have hlt:(s.here-ca).toNat<(dW J ca da).length:=by rw[List.getElem?_eq_some_iff]at h2;exact h2.1
   refine ak (by rw[beq_eq_false_iff_ne];exact GC hca h1) ?_;fail "f";fail "w";refine ek (fun h=>(LS h (by assumption)).elim) (?_);intro _;fail "w";refine' aa (by fail "a") C.g_len ?_;refine' bt (by fail "c") (by rw[List.length_map,dW,List.length_map];omega) ?_;rw[List.length_map];refine ek (fun h=>(LR (by assumption) hlt h).elim) (?_);intro _;refine mL ?_;refine ak rfl ?_;fail "f";fail "w";refine' al (v:=r.v) (by fail "c") (by rw[List.getElem?_map,h2];rfl) (by exact GB h1) (by rw[dW,List.length_map]at hlt;exact GA hlt h1 hz) ?_;refine' lk (by fail "a") ?_;refine jk ?_;refine' ⟨_,by fail "m",?_⟩;have hrg:∀x:Int,0≤x→x<16→True:=fun U U U=>trivial
   cases r with
   | reg op a b k3=>
    delta op a b k3 at *;injection h3 with ha0 ha1 hb0 hb1 hop;cases op with
    | movi=>
     dsimp only[aN.one,aN.two,aN.three];have hsl:=fc s (.reg .movi a b k3)
     refine' aG (by nofun) ?_;refine' aU ?_;refine' cb (by fail "b") (by omega) (by rw[List.length_map];exact xo ha1 hrl) (by exact xn ha1) ?_;by_cases ha:a=0
     ·refine' aG (by rw[beq_iff_eq];exact ha) ?_;refine' ap ?_;refine' aH slot_list_append (by rfl) rfl (by fail "c") ?_;refine am (by fail "b") (by rw[List.length_map];exact AT hhl hik hk) ?_;show dl _ _ _ _ _
      repeat (refine aw ?_;(with_reducible show gy _ _ _ Fl.next _ _);show dl _ _ _ _ _)
      refine bN (η':=([("made",.val J.v),("code_at",.val (.int ca)),("data_at",.val (.int da)),("first_row",.val (.int (first:Nat))),("rows",.val (.loc ra)),("spot",.un),("kind",.un),("way",.un),("which",.un),("by",.un),("cells",.val (.loc ce)),("offset",.un),("value",.un),("regs_of",.val (.loc rg)),("here",.val (.int (s.here+1))),("heard",.val (.loc he)),("_",.un),("name",.un),("one",.un),("two",.un),("three",.un),("list",.glb),("range",.glb),("len",.glb)]:aI)) (aC.weak (by fail "d")) ?_;exact⟨_,hrun,by exact pf hik hk1 hkm,by rw[hsl.1];exact hrl,by have:=hsl.2.1;exact pe hsl hml,by have:=hsl.2.2;exact pd hsl hhl,rfl,by subst ha;simp[Em.step,List.map_set]⟩
     ·refine ak (by rw[beq_eq_false_iff_ne];exact ha) ?_;repeat (refine aw ?_;(with_reducible show gy _ _ _ Fl.next _ _);show dl _ _ _ _ _)
      refine bN (η':=([("made",.val J.v),("code_at",.val (.int ca)),("data_at",.val (.int da)),("first_row",.val (.int (first:Nat))),("rows",.val (.loc ra)),("spot",.un),("kind",.un),("way",.un),("which",.un),("by",.un),("cells",.val (.loc ce)),("offset",.un),("value",.un),("regs_of",.val (.loc rg)),("here",.val (.int (s.here+1))),("heard",.val (.loc he)),("_",.un),("name",.un),("one",.un),("two",.un),("three",.un),("list",.glb),("range",.glb),("len",.glb)]:aI)) (aC.weak (by fail "d")) ?_;exact⟨_,hrun,by exact pf hik hk1 hkm,by rw[hsl.1];exact hrl,by have:=hsl.2.1;exact pe hsl hml,by have:=hsl.2.2;exact pd hsl hhl,rfl,by simp[Em.step,List.map_set,ha]⟩
    | mov=>
     dsimp only[aN.one,aN.two,aN.three];have hsl:=fc s (.reg .mov a b k3)
     refine' ak (by nofun) ?_;refine' aG (by nofun) ?_;have hk16:=hop rfl
     refine al (v:=.int (s.reg k3)) (by fail "c") (k9 hrl (by omega) (by omega)) (by omega) (by omega) ?_;refine' aU ?_;refine cb (by fail "b") (by omega) (by rw[List.length_map];exact xo ha1 hrl) (by exact xn ha1) ?_;show dl _ _ _ _ _
     repeat (refine aw ?_;(with_reducible show gy _ _ _ Fl.next _ _);show dl _ _ _ _ _)
     refine bN (η':=([("made",.val J.v),("code_at",.val (.int ca)),("data_at",.val (.int da)),("first_row",.val (.int (first:Nat))),("rows",.val (.loc ra)),("spot",.un),("kind",.un),("way",.un),("which",.un),("by",.un),("cells",.val (.loc ce)),("offset",.un),("value",.un),("regs_of",.val (.loc rg)),("here",.val (.int (s.here+1))),("heard",.val (.loc he)),("_",.un),("name",.un),("one",.un),("two",.un),("three",.un),("list",.glb),("range",.glb),("len",.glb)]:aI)) (aC.weak (by fail "d")) ?_;exact⟨_,hrun,by exact pf hik hk1 hkm,by rw[hsl.1];exact hrl,by have:=hsl.2.1;exact pe hsl hml,by have:=hsl.2.2;exact pd hsl hhl,rfl,by simp[Em.step,List.map_set]⟩
    | subi=>
     dsimp only[aN.one,aN.two,aN.three];have hsl:=fc s (.reg .subi a b k3)
     refine' ak (by nofun) ?_;refine' ak (by nofun) ?_;refine' aG (by nofun) ?_;refine' al (v:=.int (s.reg b)) (by fail "c") (k9 hrl (by omega) (by omega)) (by omega) (by exact xn hb1) ?_;refine' aU ?_;refine cb (by fail "b") (by omega) (by rw[List.length_map];exact xo ha1 hrl) (by exact xn ha1) ?_;show dl _ _ _ _ _
     repeat (refine aw ?_;(with_reducible show gy _ _ _ Fl.next _ _);show dl _ _ _ _ _)
     refine bN (η':=([("made",.val J.v),("code_at",.val (.int ca)),("data_at",.val (.int da)),("first_row",.val (.int (first:Nat))),("rows",.val (.loc ra)),("spot",.un),("kind",.un),("way",.un),("which",.un),("by",.un),("cells",.val (.loc ce)),("offset",.un),("value",.un),("regs_of",.val (.loc rg)),("here",.val (.int (s.here+1))),("heard",.val (.loc he)),("_",.un),("name",.un),("one",.un),("two",.un),("three",.un),("list",.glb),("range",.glb),("len",.glb)]:aI)) (aC.weak (by fail "d")) ?_;exact⟨_,hrun,by exact pf hik hk1 hkm,by rw[hsl.1];exact hrl,by have:=hsl.2.1;exact pe hsl hml,by have:=hsl.2.2;exact pd hsl hhl,rfl,by simp[Em.step,List.map_set]⟩
    | addi=>
     dsimp only[aN.one,aN.two,aN.three];have hsl:=fc s (.reg .addi a b k3)
     refine' ak (by nofun) ?_;refine' ak (by nofun) ?_;refine' ak (by nofun) ?_;refine' aG (by nofun) ?_;refine' al (v:=.int (s.reg b)) (by fail "c") (k9 hrl (by omega) (by omega)) (by omega) (by exact xn hb1) ?_;refine' aU ?_;refine cb (by fail "b") (by omega) (by rw[List.length_map];exact xo ha1 hrl) (by exact xn ha1) ?_;show dl _ _ _ _ _
     repeat (refine aw ?_;(with_reducible show gy _ _ _ Fl.next _ _);show dl _ _ _ _ _)
     refine bN (η':=([("made",.val J.v),("code_at",.val (.int ca)),("data_at",.val (.int da)),("first_row",.val (.int (first:Nat))),("rows",.val (.loc ra)),("spot",.un),("kind",.un),("way",.un),("which",.un),("by",.un),("cells",.val (.loc ce)),("offset",.un),("value",.un),("regs_of",.val (.loc rg)),("here",.val (.int (s.here+1))),("heard",.val (.loc he)),("_",.un),("name",.un),("one",.un),("two",.un),("three",.un),("list",.glb),("range",.glb),("len",.glb)]:aI)) (aC.weak (by fail "d")) ?_;exact⟨_,hrun,by exact pf hik hk1 hkm,by rw[hsl.1];exact hrl,by have:=hsl.2.1;exact pe hsl hml,by have:=hsl.2.2;exact pd hsl hhl,rfl,by simp[Em.step,List.map_set]⟩
    | str=>
     dsimp only[aN.one,aN.two,aN.three];have hsl:=fc s (.reg .str a b k3)
     refine' ak (by nofun) ?_;refine' ak (by nofun) ?_;refine' ak (by nofun) ?_;refine' ak (by nofun) ?_;refine' aG (by nofun) ?_;refine al (v:=.int (s.reg a)) (by fail "c") (k9 hrl (by omega) (by omega)) (by omega) (by exact xn ha1) ?_;refine' aU ?_;refine' al (v:=.int (s.reg b)) (by fail "c") (k9 hrl (by omega) (by omega)) (by omega) (by exact xn hb1) ?_;refine dy (by fail "b") ?_ (by rw[List.length_map];exact Gz hml hik hk);rw[qC];show dl _ _ _ _ _
     repeat (refine aw ?_;(with_reducible show gy _ _ _ Fl.next _ _);show dl _ _ _ _ _)
     refine bN (η':=([("made",.val J.v),("code_at",.val (.int ca)),("data_at",.val (.int da)),("first_row",.val (.int (first:Nat))),("rows",.val (.loc ra)),("spot",.un),("kind",.un),("way",.un),("which",.un),("by",.un),("cells",.val (.loc ce)),("offset",.un),("value",.un),("regs_of",.val (.loc rg)),("here",.val (.int (s.here+1))),("heard",.val (.loc he)),("_",.un),("name",.un),("one",.un),("two",.un),("three",.un),("list",.glb),("range",.glb),("len",.glb)]:aI)) (aC.weak (by fail "d")) ?_;exact⟨_,hrun,by exact pf hik hk1 hkm,by rw[hsl.1];exact hrl,by have:=hsl.2.1;exact pe hsl hml,by have:=hsl.2.2;exact pd hsl hhl,rfl,rfl⟩
    | ldr=>
     dsimp only[aN.one,aN.two,aN.three];have hsl:=fc s (.reg .ldr a b k3)
     refine' ak (by nofun) ?_;refine' ak (by nofun) ?_;refine' ak (by nofun) ?_;refine' ak (by nofun) ?_;refine' ak (by nofun) ?_;refine' aG (by nofun) ?_;refine' ap ?_;refine' ji PySem.F.slot_dict_get (by rfl) PySem.F.plainAttrs_dict rfl (by fail "c") (.inr ⟨_,rfl⟩) ?_;refine' al (v:=.int (s.reg b)) (by fail "c") (k9 hrl (by omega) (by omega)) (by omega) (by exact xn hb1) ?_;refine wM (by fail "c") ?_;rw[vb,y6];generalize hvl:(eS s.mem (s.reg b+k3)).getD 0=vl;refine' aU ?_;refine' cb (by fail "b") (by omega) (by rw[List.length_map];exact xo ha1 hrl) (by exact xn ha1) ?_;by_cases ha:a=1
     ·refine' aG (by rw[beq_iff_eq];exact ha) ?_;refine' ap ?_;refine' aH slot_list_append (by rfl) rfl (by fail "c") ?_;refine' al (v:=.int vl) (by fail "c") (by subst ha;rw[List.getElem?_set_self (by rw[List.length_map];exact Gy hrl)]) (by omega) (by omega) ?_;refine am (by fail "b") (by rw[List.length_map];exact AT hhl hik hk) ?_;show dl _ _ _ _ _
      repeat (refine aw ?_;(with_reducible show gy _ _ _ Fl.next _ _);show dl _ _ _ _ _)
      refine bN (η':=([("made",.val J.v),("code_at",.val (.int ca)),("data_at",.val (.int da)),("first_row",.val (.int (first:Nat))),("rows",.val (.loc ra)),("spot",.un),("kind",.un),("way",.un),("which",.un),("by",.un),("cells",.val (.loc ce)),("offset",.un),("value",.un),("regs_of",.val (.loc rg)),("here",.val (.int (s.here+1))),("heard",.val (.loc he)),("_",.un),("name",.un),("one",.un),("two",.un),("three",.un),("list",.glb),("range",.glb),("len",.glb)]:aI)) (aC.weak (by fail "d")) ?_;exact⟨_,hrun,by exact pf hik hk1 hkm,by rw[hsl.1];exact hrl,by have:=hsl.2.1;exact pe hsl hml,by have:=hsl.2.2;exact pd hsl hhl,rfl,by subst ha;simp[Em.step,List.map_set,hvl]⟩
     ·refine ak (by rw[beq_eq_false_iff_ne];exact ha) ?_;repeat (refine aw ?_;(with_reducible show gy _ _ _ Fl.next _ _);show dl _ _ _ _ _)
      refine bN (η':=([("made",.val J.v),("code_at",.val (.int ca)),("data_at",.val (.int da)),("first_row",.val (.int (first:Nat))),("rows",.val (.loc ra)),("spot",.un),("kind",.un),("way",.un),("which",.un),("by",.un),("cells",.val (.loc ce)),("offset",.un),("value",.un),("regs_of",.val (.loc rg)),("here",.val (.int (s.here+1))),("heard",.val (.loc he)),("_",.un),("name",.un),("one",.un),("two",.un),("three",.un),("list",.glb),("range",.glb),("len",.glb)]:aI)) (aC.weak (by fail "d")) ?_;exact⟨_,hrun,by exact pf hik hk1 hkm,by rw[hsl.1];exact hrl,by have:=hsl.2.1;exact pe hsl hml,by have:=hsl.2.2;exact pd hsl hhl,rfl,by simp[Em.step,List.map_set,ha,hvl]⟩
   | bl t k3=>
    delta t k3 at *;dsimp only[aN.one,aN.two,aN.three];have hsl:=fc s (.bl t k3)
    refine' ak (by nofun) ?_;refine' ak (by nofun) ?_;refine' ak (by nofun) ?_;refine' ak (by nofun) ?_;refine' ak (by nofun) ?_;refine' ak (by nofun) ?_;refine' aG (by nofun) ?_;refine' aU ?_;refine' cb (by fail "b") (by omega) (by rw[List.length_map];exact Gx hrl) (by omega) ?_;refine' lk (by fail "a") ?_;refine jk ?_;refine⟨_,by fail "m",?_⟩;show dl _ _ _ _ _
    repeat (refine aw ?_;(with_reducible show gy _ _ _ Fl.next _ _);show dl _ _ _ _ _)
    refine bN (η':=([("made",.val J.v),("code_at",.val (.int ca)),("data_at",.val (.int da)),("first_row",.val (.int (first:Nat))),("rows",.val (.loc ra)),("spot",.un),("kind",.un),("way",.un),("which",.un),("by",.un),("cells",.val (.loc ce)),("offset",.un),("value",.un),("regs_of",.val (.loc rg)),("here",.val (.int (s.here+1+t))),("heard",.val (.loc he)),("_",.un),("name",.un),("one",.un),("two",.un),("three",.un),("list",.glb),("range",.glb),("len",.glb)]:aI)) (aC.weak (by fail "d")) ?_;exact⟨_,hrun,by exact pf hik hk1 hkm,by rw[hsl.1];exact hrl,by have:=hsl.2.1;exact pe hsl hml,by have:=hsl.2.2;exact pd hsl hhl,rfl,by simp[Em.step,List.map_set]⟩
   | br r3 k3=>
    delta r3 k3 at *;dsimp only[aN.one,aN.two,aN.three];have hsl:=fc s (.br r3 k3)
    injection h3 with hr0 hr1;refine' ak (by nofun) ?_;refine' ak (by nofun) ?_;refine' ak (by nofun) ?_;refine' ak (by nofun) ?_;refine' ak (by nofun) ?_;refine' ak (by nofun) ?_;refine' ak (by nofun) ?_;refine' aG (by nofun) ?_;refine al (v:=.int (s.reg r3)) (by fail "c") (k9 hrl (by omega) (by omega)) (by omega) (by exact xn hr1) ?_;refine dr (by fail "m") ?_;show dl _ _ _ _ _
    repeat (refine aw ?_;(with_reducible show gy _ _ _ Fl.next _ _);show dl _ _ _ _ _)
    refine bN (η':=([("made",.val J.v),("code_at",.val (.int ca)),("data_at",.val (.int da)),("first_row",.val (.int (first:Nat))),("rows",.val (.loc ra)),("spot",.un),("kind",.un),("way",.un),("which",.un),("by",.un),("cells",.val (.loc ce)),("offset",.un),("value",.un),("regs_of",.val (.loc rg)),("here",.val (.int (s.reg r3))),("heard",.val (.loc he)),("_",.un),("name",.un),("one",.un),("two",.un),("three",.un),("list",.glb),("range",.glb),("len",.glb)]:aI)) (aC.weak (by fail "d")) ?_;exact⟨_,hrun,by exact pf hik hk1 hkm,by rw[hsl.1];exact hrl,by have:=hsl.2.1;exact pe hsl hml,by have:=hsl.2.2;exact pd hsl hhl,rfl,rfl⟩
 ·delta η' σ₁;intro z627;injection z627 with s hrun hik _;rw[List.length_map,List.length_range]at hik;have h6:(6000:Int).toNat=6000:=rfl
  omega
end
abbrev Id:=Option (Nat×Nat)
inductive bV where
 | fix (r:aN) (f:Bool)
 | bl (p:Id) (k:Int) (mp:List Int)
 | hld (p:Id)
 deriving Nonempty
def bV.tgt:bV→Option Id
 | .fix _ _=>none
 | .bl p _ _=>some p
 | .hld p=>some p
structure cK where
 id:Id
 rows:List bV
 deriving Nonempty
def az:List cK→Id→Nat
 | [],_=>0
 | b::r,p=>if b.id=p then 0 else b.rows.length+az r p
theorem kC {p:Id}:az [] p=0:=rfl
theorem bv {b:cK} {r:List cK} {p:Id}:az (b::r) p=if b.id=p then 0 else b.rows.length+az r p:=rfl
def cM (pos:Id→Nat) (i:Nat):bV→aT
 | .fix r f=>⟨r,if f then some false else none,[]⟩
 | .bl p k mp=>⟨.bl ((pos p:Nat)-(i:Nat)-1) k,none,mp⟩
 | .hld p=>⟨.reg .movi 2 0 (pos p:Nat),some true,[]⟩
def fR (pos:Id→Nat):List bV→Nat→List aT
 | [],_=>[]
 | s::r,i=>cM pos i s::fR pos r (i+1)
theorem gJ {pos:Id→Nat} {i:Nat}:fR pos [] i=[]:=rfl
theorem be {pos:Id→Nat} {s:bV} {r:List bV} {i:Nat}:fR pos (s::r) i=cM pos i s::fR pos r (i+1):=rfl
def d7 (pos:Id→Nat):List cK→Nat→List aT
 | [],_=>[]
 | b::r,i=>fR pos b.rows i++d7 pos r (i+b.rows.length)
theorem lu {pos:Id→Nat} {i:Nat}:d7 pos [] i=[]:=rfl
theorem bB {pos:Id→Nat} {b:cK} {r:List cK} {i:Nat}:d7 pos (b::r) i=fR pos b.rows i++d7 pos r (i+b.rows.length):=rfl
structure Bs where
 name:Str
 key:Int
 size:Int
 words:List (Int×Int)
 cmds:List (Str×Id)
 deriving Nonempty
def eu (X:Bs) (B:List cK):JO where
 name:=X.name
 key:=X.key
 size:=X.size
 words:=X.words
 ar:=d7 (az B) B 0
 cmds:=X.cmds.map fun p=>(p.1,az B p.2)
 body:=az B none
def LL:bV→Prop
 | .fix r _=>r.isBL=false∧r.isBR=false
 | _=>True
structure pz (X:Bs) (B:List cK):Prop where
 nd:(B.map (fun U=>U.id)).Nodup
 tgt:∀b∈B,∀s∈b.rows,∀p,s.tgt=some p→p∈B.map (fun U=>U.id)
 body:none∈B.map (fun U=>U.id)
 cmds:∀c∈X.cmds,c.2∈B.map (fun U=>U.id)
 rows:∀b∈B,∃l r k,b.rows=l++[.fix (.br r k) false]∧∀s∈l,LL s
theorem ff (pos:Id→Nat):∀(l:List bV) (i:Nat),(fR pos l i).length=l.length
 | [],_=>rfl
 | s::r,i=>by erw[be,List.length_cons,ff pos r];rfl
theorem rW (pos:Id→Nat):∀(l:List bV) (i o:Nat),(fR pos l i)[o]?=(l[o]?).map (cM pos (i+o))
 | [],_,_=>by simp[gJ,be]
 | s::r,i,o=>by
  erw[be];cases o with
  | zero=>simp
  | succ o=>erw[List.getElem?_cons_succ,List.getElem?_cons_succ,rW pos r,show i+1+o=i+(o+1)by exact vV]
theorem fg (pos:Id→Nat):∀(a b:List bV) (i:Nat),fR pos (a++b) i=fR pos a i++fR pos b (i+a.length)
 | [],_,_=>rfl
 | s::r,b,i=>by erw[List.cons_append,be,be,fg pos r b,List.length_cons,show i+1+r.length=i+(r.length+1)by exact vV];rfl
theorem fH (pos:Id→Nat):∀(a b:List cK) (i:Nat),d7 pos (a++b) i=d7 pos a i++d7 pos b (i+(a.map fun b=>b.rows.length).sum)
 | [],_,_=>by simp[lu,bB]
 | s::r,b,i=>by erw[List.cons_append,bB,bB,fH pos r b,List.append_assoc,List.map_cons,List.sum_cons,Nat.add_assoc]
def au (B:List cK):Nat:=(B.map fun b=>b.rows.length).sum
theorem gK (pos:Id→Nat):∀(B:List cK) (i:Nat),(d7 pos B i).length=au B
 | [],_=>rfl
 | b::r,i=>by erw[bB,List.length_append,ff,gK pos r];simp[au]
theorem pL (pos:Id→Nat):∀{B:List cK} {b:cK} {i o:Nat},(B.map (fun U=>U.id)).Nodup→b∈B→o<b.rows.length→(d7 pos B i)[az B b.id+o]?=(b.rows[o]?).map (cM pos (i+az B b.id+o))
 | [],_,_,_,_,h,_=>by cases h
 | c::r,b,i,o,hn,hb,ho=>by
  rw[List.map_cons,List.nodup_cons]at hn;erw[bB,bv];by_cases e:c.id=b.id
  ·have hcb:c=b:=by
    cases hb with
    | head=>rfl
    | tail _ h=>exact absurd (List.mem_map.mpr ⟨b,h,e.symm⟩) hn.1
   subst hcb;erw[if_pos rfl,Nat.zero_add,List.getElem?_append_left (by erw[ff];exact ho),rW,Nat.add_zero]
  ·have hbr:b∈r:=by
    cases hb with
    | head=>exact absurd rfl e
    | tail _ h=>exact h
   rw[if_neg e,List.getElem?_append_right (by erw[ff];exact AS),ff,show c.rows.length+az r b.id+o-c.rows.length=az r b.id+o by exact AR,pL pos hn.2 hbr ho,
    show i+c.rows.length+az r b.id+o=i+(c.rows.length+az r b.id)+o by exact Gw]
theorem mo:∀{B:List cK} {b:cK},(B.map (fun U=>U.id)).Nodup→b∈B→az B b.id+b.rows.length≤au B
 | [],_,_,h=>by cases h
 | c::r,b,hn,hb=>by
  rw[List.map_cons,List.nodup_cons]at hn;erw[bv];show _≤c.rows.length+au r
  by_cases e:c.id=b.id
  ·have hcb:c=b:=by
    cases hb with
    | head=>rfl
    | tail _ h=>exact absurd (List.mem_map.mpr ⟨b,h,e.symm⟩) hn.1
   subst hcb;erw[if_pos rfl];exact Gv
  ·have hbr:b∈r:=by
    cases hb with
    | head=>exact absurd rfl e
    | tail _ h=>exact h
   erw[if_neg e];have:=mo hn.2 hbr
   exact Bp this
theorem KF:∀{B:List cK} {i:Nat},(B.map (fun U=>U.id)).Nodup→i<au B→∃b∈B,∃o,o<b.rows.length∧i=az B b.id+o
 | [],i,_,h=>by simp[au]at h
 | c::r,i,hn,h=>by
  rw[List.map_cons,List.nodup_cons]at hn;by_cases hi:i<c.rows.length
  ·exact⟨c,.head _,i,hi,by simp[kC,bv]⟩
  ·have ht:au (c::r)=c.rows.length+au r:=by simp[au]
   obtain⟨b,hb,o,ho,e⟩:=KF (i:=i-c.rows.length) hn.2 (by exact Gu h ht hi);refine⟨b,.tail _ hb,o,ho,?_⟩;have hne:c.id≠b.id:=fun e=>hn.1 (by erw[e];exact List.mem_map_of_mem hb)
   erw[bv,if_neg hne];exact Gs e hi
theorem ga {B:List cK} {p:Id} (h:p∈B.map (fun U=>U.id)):∃b∈B,b.id=p:=by
 obtain⟨b,hb,e⟩:=List.mem_map.mp h;exact⟨b,hb,e⟩
theorem uJ:∀{B:List cK} {b c:cK} {o o':Nat},(B.map (fun U=>U.id)).Nodup→b∈B→c∈B→o<b.rows.length→o'<c.rows.length→az B b.id+o=az B c.id+o'→b=c∧o=o'
 | [],_,_,_,_,_,h,_,_,_,_=>by cases h
 | d::r,b,c,o,o',hn,hb,hc,ho,ho',e=>by
  rw[List.map_cons,List.nodup_cons]at hn;rw[bv,bv]at e
  have hcase:∀{x:cK},x∈d::r→(d.id=x.id∧d=x)∨(d.id≠x.id∧x∈r):=fun {x} hx=>by
   by_cases e:d.id=x.id
   ·cases hx with
    | head=>exact .inl ⟨rfl,rfl⟩
    | tail _ h=>exact absurd (List.mem_map.mpr ⟨x,h,e.symm⟩) hn.1
   ·cases hx with
    | head=>exact absurd rfl e
    | tail _ h=>exact .inr ⟨e,h⟩
  rcases hcase hb with⟨e1,rfl⟩|⟨e1,hb'⟩
  ·rcases hcase hc with⟨e2,rfl⟩|⟨e2,hc'⟩
   ·rw[if_pos rfl]at e;exact⟨rfl,by exact Gr e⟩
   ·rw[if_pos rfl,if_neg e2]at e;omega
  ·rcases hcase hc with⟨e2,rfl⟩|⟨e2,hc'⟩
   ·rw[if_neg e1,if_pos rfl]at e;omega
   ·rw[if_neg e1,if_neg e2]at e;exact uJ hn.2 hb' hc' ho ho' (by exact Gq e)
inductive oR (X:Bs) (B:List cK):Id→Prop
 | body:oR X B none
 | cmd {c:Str×Id}:c∈X.cmds→oR X B c.2
 | held {b:cK} {p:Id}:b∈B→.hld p∈b.rows→oR X B p
 | call {b:cK} {p:Id} {k:Int} {mp:List Int}:oR X B b.id→b∈B→.bl p k mp∈b.rows→oR X B p
theorem oR.mem {X:Bs} {B:List cK} (O:pz X B) {p:Id} (h:oR X B p):p∈B.map (fun U=>U.id):=by
 cases h with
 | body=>exact O.body
 | cmd h=>exact O.cmds _ h
 | held h1 h2=>exact O.tgt _ h1 _ h2 _ rfl
 | call _ h1 h2=>exact O.tgt _ h1 _ h2 _ rfl
theorem pz.pos {X:Bs} {B:List cK} (O:pz X B) {b:cK} (hb:b∈B):0<b.rows.length:=by
 obtain⟨l,r,k,e,_⟩:=O.rows b hb;erw[e];simp
theorem nL {X:Bs} {B:List cK}:(eu X B).rows=(d7 (az B) B 0).map aT.ins:=rfl
theorem jw {X:Bs} {B:List cK} (O:pz X B) {b:cK} (hb:b∈B) {o:Nat} {s:bV} (hs:b.rows[o]?=some s):(eu X B).ar[az B b.id+o]?=some (cM (az B) (az B b.id+o) s):=by
 have ho:o<b.rows.length:=by rw[List.getElem?_eq_some_iff]at hs;exact hs.1
 show(d7 (az B) B 0)[_]?=_
 erw[pL _ O.nd hb ho,hs,Nat.zero_add];rfl
theorem dT {X:Bs} {B:List cK}:(eu X B).ar.length=au B:=gK _ _ _
theorem mn {pos:Id→Nat} {i:Nat} {p:Id}:((i:Nat):Int)+1+((pos p:Nat)-(i:Nat)-1)=(pos p:Nat):=by exact Gp
set_option tactic.hygienic true in
theorem vT {X:Bs} {B:List cK} (O:pz X B) {b:cK} (hb:b∈B) {o:Nat} (ho:o<b.rows.length):dp (eu X B).rows (cu (eu X B)) (az B b.id+o)↔oR X B b.id:=by
 delta X B O b hb o ho at ⊢;have hlen:(eu X B).rows.length=au B:=by erw[nL,List.length_map,gK]
 have hget:∀{c:cK} (hc:c∈B) {o:Nat} {s:bV},c.rows[o]?=some s→(eu X B).rows[az B c.id+o]?=some (cM (az B) (az B c.id+o) s).ins:=fun {c} hc {o} {s} h=>by
  have:=jw O hc h
  show((eu X B).ar.map aT.ins)[_]?=_
  erw[List.getElem?_map,this];rfl
 constructor
 ·delta h
  have key:∀i,dp (eu X B).rows (cu (eu X B)) i→∃c∈B,∃o,o<c.rows.length∧i=az B c.id+o∧oR X B c.id:=by
   intro i h
   have top:∀{p:Id},oR X B p→∃c∈B,∃o,o<c.rows.length∧az B p=az B c.id+o∧oR X B c.id:=fun {p} hp=>by
    obtain⟨c,hc,rfl⟩:=ga (hp.mem O);exact⟨c,hc,0,O.pos hc,rfl,hp⟩
   induction h with
   | @start i h1 h2=>
    unfold cu at h1;rw[List.mem_cons,List.mem_append]at h1;rcases h1 with h1|h1|h1
    ·erw[h1];exact top .body
    ·obtain⟨q,hq,rfl⟩:=List.mem_map.mp h1;obtain⟨c,hc,rfl⟩:=List.mem_map.mp hq;exact top (.cmd hc)
    ·obtain⟨⟨j,k⟩,hq,rfl⟩:=List.mem_map.mp h1;obtain⟨a,ha,hf,hk⟩:=em.mp hq;have hj:j<au B:=by erw[←dT (X:=X)];rw[List.getElem?_eq_some_iff]at ha;exact ha.1
     obtain⟨c,hc,o,ho,e⟩:=KF O.nd hj;have hs:c.rows[o]?=some c.rows[o]:=List.getElem?_eq_getElem ho
     have hm:=List.getElem_mem ho
     generalize c.rows[o]=s at hs hm;rw[e,jw O hc hs]at ha;cases ha;cases s with
     | fix r f=>cases f<;>simp[cM]at hf
     | bl p k mp=>simp[cM]at hf
     | hld p=>
      dsimp only;have:k.toNat=az B p:=by erw[←hk];simp[cM,aN.three]
      erw[this];exact top (.held hc hm)
   | @succ i j r h1 h2 h3 ih=>
    obtain⟨c,hc,o,ho,rfl,hr⟩:=ih;unfold fb at h3;split at h3
    ·rename_i hcond;simp only[List.mem_singleton]at h3;subst h3;refine⟨c,hc,o+1,?_,by exact z9,hr⟩;rcases Nat.lt_or_ge (o+1) c.rows.length with h|h
     ·exact h
     ·exfalso;obtain⟨l,rr,k,e,_⟩:=O.rows c hc
      have hs:c.rows[o]?=some (.fix (.br rr k) false):=by
       rw[e]at ho h ⊢;simp only[List.length_append,List.length_singleton]at ho h;erw[show o=l.length by exact Go h ho];simp
      rw[hget hc hs]at h2;cases h2;simp[cM,aN.isBR]at hcond
    ·cases h3
   | @call i j r h1 h2 h3 ih=>
    obtain⟨c,hc,o,ho,rfl,hr⟩:=ih;have hs:c.rows[o]?=some c.rows[o]:=List.getElem?_eq_getElem ho
    have hm:=List.getElem_mem ho
    generalize c.rows[o]=s at hs hm;rw[hget hc hs]at h2;cases h2;cases s with
    | fix r f=>
     obtain⟨l,rr,k,e,hl⟩:=O.rows c hc;rw[e,List.mem_append,List.mem_singleton]at hm;rcases hm with hm|hm
     ·have:=(hl _ hm).1
      unfold cJ cM at h3;cases r with
      | bl t k=>simp[aN.isBL]at this
      | _=>cases h3
     ·cases hm;cases h3
    | hld p=>cases h3
    | bl p k mp=>
     unfold cJ cM at h3;dsimp only at h3;rw[mn]at h3;split at h3
     ·simp only[List.mem_singleton,Int.toNat_natCast]at h3;subst h3;exact top (.call hr hc hm)
     ·cases h3
  injection (key _ h)with c hc o' ho' e hr;erw[(uJ O.nd hb hc ho ho' e).1];exact hr
 ·have lt:∀{c:cK} (_:c∈B) {o:Nat},o<c.rows.length→az B c.id+o<(eu X B).rows.length:=fun {c} hc {o} ho=>by
   have:=mo O.nd hc
   erw[hlen];exact wC this ho
  have all:∀{c:cK} (hc:c∈B),dp (eu X B).rows (cu (eu X B)) (az B c.id)→∀o,o<c.rows.length→dp (eu X B).rows (cu (eu X B)) (az B c.id+o):=fun {c} hc h o=>by
   induction o with
   | zero=>intro _;exact h
   | succ o ih=>
    intro ho;have hs:c.rows[o]?=some c.rows[o]:=List.getElem?_eq_getElem (by exact DG ho)
    have hm:=List.getElem_mem (show o<c.rows.length by exact DG ho)
    refine .succ (ih (by exact DG ho)) (hget hc hs) ?_;unfold fb;erw[if_pos]
    ·erw[List.mem_singleton];exact Dd
    ·have hnb:(cM (az B) (az B c.id+o) c.rows[o]).ins.isBR=false:=by
      obtain⟨l,rr,k,e,hl⟩:=O.rows c hc;have hlo:o<l.length:=by rw[e]at ho;simp at ho;omega
      have hml:c.rows[o]∈l:=by
       have:c.rows[o]=l[o]:=by
        have h1:c.rows[o]?=l[o]?:=by erw[e,List.getElem?_append_left hlo]
        rw[List.getElem?_eq_getElem (by exact DG ho),List.getElem?_eq_getElem hlo]at h1;exact Option.some.inj h1
       erw[this];exact List.getElem_mem hlo
      have:=hl _ hml
      cases hcs:c.rows[o]with
      | fix r f=>rw[hcs]at this;exact this.2
      | bl p k mp=>rfl
      | hld p=>rfl
     erw[hnb];have:=lt hc ho
     simp;exact Gn this
  delta h
  have top:∀p,oR X B p→dp (eu X B).rows (cu (eu X B)) (az B p):=by
   intro p h;induction h with
   | body=>
    obtain⟨c,hc,e⟩:=ga O.body;refine .start (by unfold cu;exact .head _) ?_;erw[←e];exact lt hc (O.pos hc)
   | @cmd q h=>
    obtain⟨c,hc,e⟩:=ga (O.cmds q h);refine .start (by unfold cu;refine .tail _ (List.mem_append.mpr (.inl (List.mem_map.mpr ⟨(q.1,az B q.2),List.mem_map.mpr ⟨q,h,rfl⟩,rfl⟩)))) ?_;erw[←e];exact lt hc (O.pos hc)
   | @held d p h1 h2=>
    obtain⟨c,hc,e⟩:=ga (O.tgt _ h1 _ h2 _ rfl);obtain⟨o,ho,hs⟩:=List.mem_iff_getElem.mp h2;have hs':d.rows[o]?=some (.hld p):=by erw[List.getElem?_eq_getElem ho,hs]
    refine .start (by unfold cu;refine .tail _ (List.mem_append.mpr (.inr (List.mem_map.mpr ⟨(az B d.id+o,((az B p:Nat):Int)),em.mpr ⟨_,jw O h1 hs',rfl,rfl⟩,by simp⟩)))) ?_;erw[←e];exact lt hc (O.pos hc)
   | @call d p k mp h1 h2 h3 ih=>
    obtain⟨c,hc,e⟩:=ga (O.tgt _ h2 _ h3 _ rfl);obtain⟨o,ho,hs⟩:=List.mem_iff_getElem.mp h3;have hs':d.rows[o]?=some (.bl p k mp):=by erw[List.getElem?_eq_getElem ho,hs]
    refine .call (all h2 ih o ho) (hget h2 hs') ?_;have hl:=lt hc (O.pos hc)
    rw[Nat.add_zero,e]at hl;unfold cJ cM;dsimp only;erw[mn,if_pos ⟨by exact hU,by exact vW hl⟩];simp
  exact all hb (top _ h) o ho
def sC (keep:Id→Bool):List cK→List Bool
 | []=>[]
 | b::r=>List.replicate b.rows.length (keep b.id)++sC keep r
theorem Kz {keep:Id→Bool}:sC keep []=[]:=rfl
theorem lB {keep:Id→Bool} {b:cK} {r:List cK}:sC keep (b::r)=List.replicate b.rows.length (keep b.id)++sC keep r:=rfl
theorem sA (keep:Id→Bool):∀B:List cK,(sC keep B).length=au B
 | []=>rfl
 | b::r=>by erw[lB,List.length_append,List.length_replicate,sA keep r];simp[au]
theorem sB (keep:Id→Bool):∀{B:List cK} {b:cK} {o:Nat},(B.map (fun U=>U.id)).Nodup→b∈B→o<b.rows.length→(sC keep B)[az B b.id+o]?=some (keep b.id)
 | [],_,_,_,h,_=>by cases h
 | c::r,b,o,hn,hb,ho=>by
  rw[List.map_cons,List.nodup_cons]at hn;erw[lB,bv];by_cases e:c.id=b.id
  ·have hcb:c=b:=by
    cases hb with
    | head=>rfl
    | tail _ h=>exact absurd (List.mem_map.mpr ⟨b,h,e.symm⟩) hn.1
   subst hcb;erw[if_pos rfl,Nat.zero_add,List.getElem?_append_left (by erw[List.length_replicate];exact ho),List.getElem?_replicate,if_pos ho]
  ·have hbr:b∈r:=by
    cases hb with
    | head=>exact absurd rfl e
    | tail _ h=>exact h
   erw[if_neg e,List.getElem?_append_right (by erw[List.length_replicate];exact AS),List.length_replicate,show c.rows.length+az r b.id+o-c.rows.length=az r b.id+o by exact AR,sB keep hn.2 hbr ho]
theorem w4 (n:Nat) (k:Bool) (ks:List Bool) (j:Nat):place (List.replicate n k++ks) (n+j)=(if k then n else 0)+place ks j:=by
 unfold place;erw[List.take_append,List.length_replicate,show n+j-n=j by exact Gm,List.take_of_length_le (by erw[List.length_replicate];omega),List.count_append,List.count_replicate];cases k<;>simp
theorem pP (keep:Id→Bool):∀{B:List cK} {p:Id},p∈B.map (fun U=>U.id)→keep p=true→place (sC keep B) (az B p)=az (B.filter fun b=>keep b.id) p
 | [],_,h,_=>by cases h
 | c::r,p,h,hk=>by
  erw[lB,bv,List.filter_cons];by_cases e:c.id=p
  ·erw[if_pos e,e,hk,if_pos rfl,bv,if_pos e];simp[place]
  ·erw[if_neg e,w4]
   have hr:p∈r.map (fun U=>U.id):=by
    rw[List.map_cons,List.mem_cons]at h;exact h.resolve_left fun q=>e q.symm
   erw[pP keep hr hk];cases hc:keep c.id with
   | true=>simp only[if_true];erw[bv,if_neg e]
   | false=>simp
theorem pS {ks:List Bool} {pos pos':Id→Nat}:∀(l:List bV) (i:Nat),(∀o,o<l.length→ks[i+o]?=some true)→(∀s∈l,∀p,s.tgt=some p→place ks (pos p)=pos' p)→(∀s∈l,∀r f,s=.fix r f→r.isBL=false)→
 bT ks (fR pos l i) i=fR pos' l (place ks i)
 | [],_,_,_,_=>rfl
 | s::r,i,h1,h2,h3=>by
  have hi:=h1 0 (by simp)
  rw[Nat.add_zero]at hi;erw[be,bO,hi,be]
  have hs:uL ks i (cM pos i s)=cM pos' (place ks i) s:=by
   have h4:=h2 s (.head _)
   have h5:=h3 s (.head _)
   cases s with
   | fix q f=>
    have h6:=h5 q f rfl
    unfold uL gm cM;cases q with
    | bl t k=>simp[aN.isBL]at h6
    | _=>cases f<;>simp
   | bl p k mp=>
    unfold uL gm cM;dsimp only;erw[mn,Int.toNat_natCast,h4 p rfl]
   | hld p=>
    unfold uL gm cM;simp only[if_true,aN.three,Int.toNat_natCast,aN.setThree];erw[h4 p rfl]
  erw[hs];simp only[Option.getD_some,if_true,List.singleton_append];erw[pS r (i+1) (fun o ho=>by have:=h1 (o+1) (by simp;omega);rwa[show i+(o+1)=i+1+o by exact tA]at this) (fun s hs=>h2 s (.tail _ hs)) (fun s hs=>h3 s (.tail _ hs)),cG hi];simp
theorem nK {ks:List Bool} {pos:Id→Nat}:∀(l:List bV) (i:Nat),(∀o,o<l.length→ks[i+o]?=some false)→bT ks (fR pos l i) i=[]
 | [],_,_=>rfl
 | s::r,i,h1=>by
  have hi:=h1 0 (by simp)
  rw[Nat.add_zero] at hi;erw[be,bO,hi];simp only[Option.getD_some,Bool.false_eq_true,if_false,List.nil_append];exact nK r (i+1) fun o ho=>by have:=h1 (o+1) (by simp;omega);rwa[show i+(o+1)=i+1+o by exact tA] at this
theorem pO {ks:List Bool} {k:Bool} {i:Nat}:∀n,(∀o,o<n→ks[i+o]?=some k)→place ks (i+n)=place ks i+if k then n else 0
 | 0,_=>by simp
 | n+1,h=>by
  erw[←Nat.add_assoc,cG (h n (by omega)),pO n fun o ho=>h o (by omega)];cases k<;>simp<;>exact z9
theorem n0 {pre:List cK} {b:cK} {suf:List cK} (hn:((pre++b::suf).map (fun U=>U.id)).Nodup):az (pre++b::suf) b.id=au pre:=by
 induction pre with
 | nil=>simp[kC,bv,au]
 | cons c r ih=>
  rw[List.cons_append,List.map_cons,List.nodup_cons]at hn;have hne:c.id≠b.id:=fun e=>hn.1 (by erw[e];exact List.mem_map_of_mem (by simp))
  erw[List.cons_append,bv,if_neg hne,ih hn.2];simp[au]
theorem sm {ks:List Bool} {B:List cK} {keep:Id→Bool} {pos':Id→Nat} (hn:(B.map (fun U=>U.id)).Nodup) (hks:∀b∈B,∀o,o<b.rows.length→ks[az B b.id+o]?=some (keep b.id))
 (ht:∀b∈B,keep b.id=true→∀s∈b.rows,∀p,s.tgt=some p→place ks (az B p)=pos' p) (hb:∀b∈B,∀s∈b.rows,∀r f,s=.fix r f→r.isBL=false):
 ∀(suf pre:List cK),B=pre++suf→bT ks (d7 (az B) suf (au pre)) (au pre)=d7 pos' (suf.filter fun b=>keep b.id) (place ks (au pre))
 | [],_,_=>rfl
 | b::r,pre,e=>by
  have hbB:b∈B:=by erw[e];simp
  have hp:az B b.id=au pre:=by subst e;exact n0 hn
  have hk:=hks b hbB
  rw[hp]at hk
  have htp:au (pre++[b])=au pre+b.rows.length:=by simp[au]
  have ih:=sm hn hks ht hb r (pre++[b]) (by erw[e];simp)
  rw[htp]at ih
  erw[bB,ic,ff,ih,List.filter_cons,pO _ hk]
  cases hkb:keep b.id with
  | true=>
   rw[hkb]at hk
   simp only[if_true]
   erw[pS b.rows _ hk (ht b hbB hkb) (hb b hbB),bB]
  | false=>
   rw[hkb]at hk
   simp only[Bool.false_eq_true,if_false]
   erw[nK b.rows _ hk];simp
theorem kw (k:cK→Bool):∀(B:List cK),au (B.filter k)≤au B
 | []=>Nat.le_refl _
 | b::r=>by
  have:=kw k r
  erw[List.filter_cons];have ht:au (b::r)=b.rows.length+au r:=by simp[au]
  split
  ·have ht2:au (b::r.filter k)=b.rows.length+au (r.filter k):=by simp[au]
   exact Gl ht2 ht this
  ·exact Gk this ht
set_option tactic.hygienic true in
theorem pF {k:cK→Bool}:∀{B:List cK},(∀b∈B,0<b.rows.length)→au (B.filter k)=au B→∀b∈B,k b=true
 | [],_,_,b,h=>by cases h
 | c::r,hp,ht,b,hb=>by
  have h1:=kw k r
  have ht1:au (c::r)=c.rows.length+au r:=by simp[au]
  have h2:=hp c (.head _)
  rw[List.filter_cons]at ht;split at ht
  ·rename_i hk;have ht2:au (c::r.filter k)=c.rows.length+au (r.filter k):=by simp[au]
   cases hb with
   | head=>exact hk
   | tail _ hb=>exact pF (fun b hb=>hp b (.tail _ hb)) (by exact Gj ht ht2 ht1) b hb
  ·omega
theorem vi {X:Bs} {B:List cK} {J':JO} (O:pz X B) (h:tf (eu X B) J'):∃keep:Id→Bool,(∀p∈B.map (fun U=>U.id),keep p=true↔oR X B p)∧J'=eu X (B.filter fun b=>keep b.id)∧pz X (B.filter fun b=>keep b.id):=by
 delta X B J' O h at ⊢;injection h with ks hlen hks rfl;rw[dT]at hlen;refine⟨fun p=>ks[az B p]?.getD false,?_⟩;have hk1:∀b∈B,∀o,o<b.rows.length→(ks[az B b.id+o]?=some true↔oR X B b.id):=fun b hb o ho=>(hks _).trans (vT O hb ho)
 have hkl:∀b∈B,∀o,o<b.rows.length→∃v,ks[az B b.id+o]?=some v:=fun b hb o ho=>by
  have:=mo O.nd hb
  exact⟨_,List.getElem?_eq_getElem (by exact Gi this ho hlen)⟩
 have hkeep:∀p∈B.map (fun U=>U.id),(ks[az B p]?.getD false=true↔oR X B p):=fun p hp=>by
  obtain⟨b,hb,rfl⟩:=ga hp;have h1:=hk1 b hb 0 (O.pos hb)
  obtain⟨v,hv⟩:=hkl b hb 0 (O.pos hb);rw[Nat.add_zero]at h1 hv;rw[hv]at h1 ⊢;simpa using h1
 generalize hkp:(fun p=>ks[az B p]?.getD false)=keep;have hkeep2:∀p∈B.map (fun U=>U.id),(keep p=true↔oR X B p):=fun p hp=>by erw[←hkp];exact hkeep p hp
 clear hkp hkeep
 have hks2:∀b∈B,∀o,o<b.rows.length→ks[az B b.id+o]?=some (keep b.id):=fun b hb o ho=>by
  obtain⟨v,hv⟩:=hkl b hb o ho;have h1:=hk1 b hb o ho
  have h2:=hkeep2 b.id (List.mem_map_of_mem hb)
  rw[hv]at h1 ⊢;congr 1;cases v<;>cases hkb:keep b.id<;>simp_all
 have hke:ks=sC keep B:=by
  apply List.ext_getElem?;intro i;rcases Nat.lt_or_ge i (au B)with hi|hi
  ·obtain⟨b,hb,o,ho,rfl⟩:=KF O.nd hi;erw[hks2 b hb o ho,sB keep O.nd hb ho]
  ·erw[List.getElem?_eq_none (by exact Gh hlen hi),List.getElem?_eq_none (by erw[sA];exact hi)]
 have hpl:∀p,oR X B p→place ks (az B p)=az (B.filter fun b=>keep b.id) p:=fun p hp=>by
  erw[hke];exact pP keep (hp.mem O) ((hkeep2 p (hp.mem O)).mpr hp)
 have htg:∀b∈B,keep b.id=true→∀s∈b.rows,∀p,s.tgt=some p→oR X B p:=fun b hb hk s hs p hp=>by
  cases s with
  | fix r f=>cases hp
  | bl q k mp=>cases hp;exact .call ((hkeep2 b.id (List.mem_map_of_mem hb)).mp hk) hb hs
  | hld q=>cases hp;exact .held hb hs
 refine⟨hkeep2,?_,?_⟩
 ·have hm:=sm (pos':=az (B.filter fun b=>keep b.id)) O.nd hks2 (fun b hb hk s hs p hp=>hpl p (htg b hb hk s hs p hp)) (fun b hb s hs r f e=>by
   obtain⟨l,rr,k,el,hl⟩:=O.rows b hb;rw[el,List.mem_append,List.mem_singleton]at hs;rcases hs with hs|hs
   ·have:=hl s hs;rw[e]at this;exact this.1
   ·rw[e]at hs;cases hs;rfl) B [] rfl
  have h0:place ks 0=0:=by simp[place]
  rw[show au ([]:List cK)=0 from rfl,h0]at hm;unfold JO.remap eu;dsimp only;erw[hm,hpl none .body,List.map_map];congr 1;refine List.map_congr_left ?_;delta c hc;show(c.1,place ks (az B c.2))=_
  erw[hpl c.2 (.cmd hc)]
 ·have hin:∀p,oR X B p→p∈(B.filter fun b=>keep b.id).map (fun U=>U.id):=fun p hp=>by
   obtain⟨b,hb,e⟩:=ga (hp.mem O);refine List.mem_map.mpr ⟨b,List.mem_filter.mpr ⟨hb,?_⟩,e⟩;erw[e];exact(hkeep2 p (hp.mem O)).mpr hp
  refine⟨O.nd.sublist ((List.filter_sublist).map _),?_,hin _ .body,fun c hc=>hin _ (.cmd hc),fun b hb=>O.rows b (List.mem_filter.mp hb).1⟩;delta b hb s hs p hp;injection (List.mem_filter.mp hb)with hb1 hb2;exact hin p (htg b hb1 hb2 s hs p hp)
inductive hH (X:Bs) (B:List cK):Id→Prop
 | body:hH X B none
 | cmd {c:Str×Id}:c∈X.cmds→hH X B c.2
 | step {b:cK} {s:bV} {p:Id}:hH X B b.id→b∈B→s∈b.rows→s.tgt=some p→hH X B p
theorem hH.rch {X:Bs} {B:List cK} {p:Id} (h:hH X B p):oR X B p:=by
 induction h with
 | body=>exact .body
 | cmd h=>exact .cmd h
 | @step b s p _ h2 h3 h4 ih=>
  cases s with
  | fix r f=>cases h4
  | bl q k mp=>cases h4;exact .call ih h2 h3
  | hld q=>cases h4;exact .held h2 h3
theorem vR {X:Bs}:∀{J J':JO},iw J J'→∀{B:List cK},J=eu X B→pz X B→∃B',J'=eu X B'∧pz X B'∧B'.Sublist B∧(∀b∈B',oR X B' b.id)∧∀b∈B,hH X B b.id→b∈B':=by
 delta X at ⊢;intro J J' h;induction h with
 | @stop J J' hd hl=>
  rintro B rfl O;obtain⟨keep,h1,rfl,h3⟩:=vi O hd;rw[dT,dT]at hl;have hall:=pF (fun b hb=>O.pos hb) hl
  have hB:(B.filter fun b=>keep b.id)=B:=List.filter_eq_self.mpr hall
  erw[hB];exact⟨B,rfl,O,List.Sublist.refl _,fun b hb=>(h1 b.id (List.mem_map_of_mem hb)).mp (hall b hb),fun b hb U=>hb⟩
 | @step J J1 J' hd _ ih=>
  rintro B rfl O;obtain⟨keep,h1,rfl,h3⟩:=vi O hd;obtain⟨B',e,O',hs,hr,hp⟩:=ih rfl h3;have hin:∀b∈B,hH X B b.id→b∈B.filter fun b=>keep b.id:=fun b hb h=>List.mem_filter.mpr ⟨hb,(h1 b.id (List.mem_map_of_mem hb)).mpr h.rch⟩
  refine⟨B',e,O',hs.trans List.filter_sublist,hr,fun b hb h=>hp b (hin b hb h) ?_⟩
  have hgo:∀p,hH X B p→hH X (B.filter fun b=>keep b.id) p:=fun p h=>by
   induction h with
   | body=>exact .body
   | cmd h=>exact .cmd h
   | step h1 h2 h3 h4 ih=>exact .step ih (hin _ h2 h1) h3 h4
  exact hgo _ h
theorem hH.of_sub {X:Bs} {B B':List cK} (hs:∀b∈B',b∈B) {p:Id} (h:hH X B' p):hH X B p:=by
 induction h with
 | body=>exact .body
 | cmd h=>exact .cmd h
 | step _ h2 h3 h4 ih=>exact .step ih (hs _ h2) h3 h4
theorem t8 {X:Bs} {B:List cK} {rank:Id→Nat} {M:Nat} (O:pz X B) (hr:∀b∈B,∀s∈b.rows,∀p,s.tgt=some p→rank p<rank b.id) (hM:∀b∈B,rank b.id<M) (h:∀b∈B,oR X B b.id):∀b∈B,hH X B b.id:=by
 have key:∀k,∀b∈B,M-rank b.id≤k→hH X B b.id:=by
  intro k;induction k with
  | zero=>intro b hb hk;exact absurd (Nat.sub_pos_of_lt (hM b hb)) (Nat.not_lt.mpr hk)
  | succ k ih=>
   intro b hb hk;have hb0:=h b hb
   generalize hid:b.id=p at hb0 hk;cases hb0 with
   | body=>exact .body
   | cmd hc=>exact .cmd hc
   | @held c p h1 h2=>
    have hlt:=hr c h1 _ h2 _ rfl
    have:=hM c h1
    exact .step (ih c h1 (by exact AP hk this hlt)) h1 h2 rfl
   | @call c p k' mp h1 h2 h3=>
    have hlt:=hr c h2 _ h3 _ rfl
    have:=hM c h2
    exact .step (ih c h2 (by exact AP hk this hlt)) h2 h3 rfl
 exact fun b hb=>key (M-rank b.id) b hb (Nat.le_refl _)
theorem qB {X:Bs} {B:List cK} {J':JO} {rank:Id→Nat} {M:Nat} (O:pz X B) (hr:∀b∈B,∀s∈b.rows,∀p,s.tgt=some p→rank p<rank b.id) (hM:∀b∈B,rank b.id<M) (h:iw (eu X B) J'):
 ∃B',J'=eu X B'∧pz X B'∧B'.Sublist B∧∀b∈B,(b∈B'↔hH X B b.id):=by
 delta X B J' rank M O hr hM h at ⊢;injection (vR h rfl O)with B' e O' hs hr' hp;have hsub:∀b∈B',b∈B:=fun b hb=>hs.subset hb
 have hall:=t8 O' (fun b hb=>hr b (hsub b hb)) (fun b hb=>hM b (hsub b hb)) hr'
 exact⟨B',e,O',hs,fun b hb=>⟨fun h=>(hall b h).of_sub hsub,hp b hb⟩⟩
def eO (e:Nat) (d:bg):bV:=match d.k with
 | .held=>.hld (some d.to)
 | _=>.bl (some d.to) 0 [0-8-4*(e:Nat)]
def dE (dat:Int) (t e:Nat):List bV:=[.fix (.reg .subi 14 14 8) false,.fix (.reg .str 15 14 0) false,.fix (.reg .movi 0 0 (100*(t:Nat)+(e:Nat))) false,.fix (.reg .ldr 1 13 dat) true]
def eL:List bV:=[.fix (.reg .ldr 15 14 0) false,.fix (.reg .addi 14 14 8) false,.fix (.br 15 0) false]
def ag (W:Wd) (dat:Nat→Int) (p:Nat×Nat):cK:=⟨some p,dE (dat p.1) p.1 p.2++(aq W p).map (eO p.2)++eL⟩
def fq (ts:List Nat):List bV:=[.fix (.reg .str 15 14 (-4)) false,.fix (.reg .str 11 14 (-8)) false,.fix (.reg .mov 11 0 14) false,.fix (.reg .subi 14 14 8) false]++ts.map (fun t=>.bl (some (t,0)) 0 [])++
 [.fix (.reg .mov 14 0 11) false,.fix (.reg .ldr 15 14 (-4)) false,.fix (.reg .ldr 11 14 (-8)) false,.fix (.br 15 0) false]
def af (ts:List Nat):cK:=⟨none,fq ts⟩
def mz (W:Wd) (t:Nat):Nat:=match W[t]? with
 | some m=>m.procs.length
 | none=>0
def gh (W:Wd) (t:Nat):List (Nat×Nat):=(List.range (mz W t)).map fun e=>(t,e)
def jI (W:Wd) (dat:Nat→Int) (t:Nat):List cK:=(gh W t).map (ag W dat)
def dD (W:Wd) (dat:Nat→Int) (ts:List Nat):List cK:=ts.flatMap (jI W dat)
def B0 (W:Wd) (dat:Nat→Int) (ts:List Nat):List cK:=dD W dat ts++[af ts]
theorem lL {W:Wd} {p:Nat×Nat}:PV W p↔p.2<mz W p.1:=by
 unfold PV mz;cases h:W[p.1]? with
 | none=>simp
 | some m=>simp
theorem fL {W:Wd} {t:Nat} {p:Nat×Nat}:p∈gh W t↔p.1=t∧PV W p:=by
 delta W t p at ⊢;unfold gh;erw[List.mem_map,lL];constructor
 ·intro z642;injection z642 with e he rfl;exact⟨rfl,by simpa using he⟩
 ·intro z645;injection z645 with rfl h;exact⟨p.2,by simpa using h,rfl⟩
theorem iW {W:Wd} {dat:Nat→Int} {ts:List Nat} {b:cK}:b∈dD W dat ts↔∃p,p.1∈ts∧PV W p∧b=ag W dat p:=by
 delta W dat ts b at ⊢;unfold dD jI;erw[List.mem_flatMap];constructor
 ·intro z647;injection z647 with t ht hb;injection (List.mem_map.mp hb)with p hp rfl;injection (fL.mp hp)with rfl h;exact⟨p,ht,h,rfl⟩
 ·intro z652;injection z652 with p h1 h2 rfl;exact⟨p.1,h1,List.mem_map_of_mem (fL.mpr ⟨rfl,h2⟩)⟩
theorem dU {W:Wd} {dat:Nat→Int} {ts:List Nat} {b:cK}:b∈B0 W dat ts↔(∃p,p.1∈ts∧PV W p∧b=ag W dat p)∨b=af ts:=by
 unfold B0;erw[List.mem_append,iW,List.mem_singleton]
theorem oF {W:Wd} {dat:Nat→Int}:∀{ts:List Nat},ts.Nodup→((dD W dat ts).map (fun U=>U.id)).Nodup
 | [],_=>.nil
 | t::r,h=>by
  rw[List.nodup_cons]at h;unfold dD;erw[List.flatMap_cons,List.map_append,List.nodup_append];refine⟨?_,oF h.2,?_⟩
  ·unfold jI gh;erw[List.map_map,List.map_map]
   exact(List.nodup_range).map _ fun a b hab e=>hab (by
    have e':(some (t,a):Id)=some (t,b):=e
    simpa using e')
  ·intro a ha b hb e;subst e;obtain⟨c,hc,rfl⟩:=List.mem_map.mp ha;obtain⟨p,hp,rfl⟩:=List.mem_map.mp hc;obtain⟨c',hc',e⟩:=List.mem_map.mp hb;obtain⟨p',h1,h2,rfl⟩:=iW.mp hc';have e':(some p':Id)=some p:=e
   cases e';rw[(fL.mp hp).1]at h1;exact h.1 h1
structure tb (W:Wd) (ts:List Nat):Prop where
 nd:ts.Nodup
 pos:∀t∈ts,0<mz W t
 cl:∀p,p.1∈ts→PV W p→∀d∈aq W p,d.m∈ts
 few:ts.length≤3
 imp:∀t∈ts,∀m,W[t]?=some m→∀i∈m.imps,i∈ts
theorem mR {e:Nat} {d:bg}:(eO e d).tgt=some (some d.to):=by
 unfold eO;obtain⟨k,m,w⟩:=d;cases k<;>rfl
theorem rl {W:Wd} {dat:Nat→Int} {p:Nat×Nat} {s:bV} (hs:s∈(ag W dat p).rows) {q:Id} (h:s.tgt=some q):∃d∈aq W p,q=some d.to:=by
 delta W dat p s hs q h at ⊢;unfold ag dE eL at hs;simp only[List.mem_append,List.mem_cons,List.not_mem_nil,or_false,List.mem_map]at hs;rcases hs with((rfl|rfl|rfl|rfl)|⟨d,hd,rfl⟩)|(rfl|rfl|rfl)
 all_goals first|(cases h)|skip
 rw[mR]at h;cases h;exact⟨d,hd,rfl⟩
theorem ou {ts:List Nat} {s:bV} (hs:s∈fq ts) {q:Id} (h:s.tgt=some q):∃t∈ts,q=some (t,0):=by
 delta ts s hs q h at ⊢;unfold fq at hs;simp only[List.mem_append,List.mem_cons,List.not_mem_nil,or_false,List.mem_map]at hs;rcases hs with((rfl|rfl|rfl|rfl)|⟨d,hd,rfl⟩)|(rfl|rfl|rfl|rfl)
 all_goals first|(cases h)|skip
 exact⟨d,hd,rfl⟩
theorem uj {W:Wd} {dat:Nat→Int} {ts:List Nat} {p:Nat×Nat} (h1:p.1∈ts) (h2:PV W p):(some p:Id)∈(B0 W dat ts).map (fun U=>U.id):=
 List.mem_map.mpr ⟨ag W dat p,dU.mpr (.inl ⟨p,h1,h2,rfl⟩),rfl⟩
theorem KV {W:Wd} (hW:dj W) {dat:Nat→Int} {ts:List Nat} (T:tb W ts) {X:Bs} (hc:∀c∈X.cmds,∃p,c.2=some p∧p.1∈ts∧PV W p):pz X (B0 W dat ts):=by
 delta W hW dat ts T X hc at ⊢;refine⟨?_,?_,?_,?_,?_⟩
 ·unfold B0;erw[List.map_append,List.nodup_append];refine⟨oF T.nd,by simp,fun a ha b hb e=>?_⟩;simp only[List.map_cons,List.map_nil,List.mem_singleton]at hb;subst e;obtain⟨c,hc,e⟩:=List.mem_map.mp ha;obtain⟨p,_,_,rfl⟩:=iW.mp hc;rw[hb]at e;cases e
 ·intro b hb s hs q hq;rcases dU.mp hb with⟨p,h1,h2,rfl⟩|rfl
  ·obtain⟨d,hd,rfl⟩:=rl hs hq;exact uj (T.cl p h1 h2 d hd) (dB hW h2 hd).1
  ·obtain⟨t,ht,rfl⟩:=ou hs hq;exact uj ht (lL.mpr (T.pos t ht))
 ·exact List.mem_map.mpr ⟨af ts,dU.mpr (.inr rfl),rfl⟩
 ·intro c hcm;obtain⟨p,e,h1,h2⟩:=hc c hcm;erw[e];exact uj h1 h2
 ·intro b hb;rcases dU.mp hb with⟨p,h1,h2,rfl⟩|rfl
  delta p at h1 h2 hb
  ·refine⟨dE (dat p.1) p.1 p.2++(aq W p).map (eO p.2)++[.fix (.reg .ldr 15 14 0) false,.fix (.reg .addi 14 14 8) false],15,0,by simp[ag,eL],fun s hs=>?_⟩;simp only[dE,List.mem_append,List.mem_cons,List.not_mem_nil,or_false,List.mem_map]at hs;rcases hs with((rfl|rfl|rfl|rfl)|⟨d,hd,rfl⟩)|(rfl|rfl)
   all_goals first|exact⟨rfl,rfl⟩|skip
   unfold eO;split<;>trivial
  ·refine⟨[.fix (.reg .str 15 14 (-4)) false,.fix (.reg .str 11 14 (-8)) false,.fix (.reg .mov 11 0 14) false,.fix (.reg .subi 14 14 8) false]++ts.map (fun t=>.bl (some (t,0)) 0 [])++[.fix (.reg .mov 14 0 11) false,.fix (.reg .ldr 15 14 (-4)) false,.fix (.reg .ldr 11 14 (-8)) false],15,0,by simp[af,fq],fun s hs=>?_⟩;simp only[List.mem_append,List.mem_cons,List.not_mem_nil,or_false,List.mem_map]at hs;rcases hs with((rfl|rfl|rfl|rfl)|⟨d,hd,rfl⟩)|(rfl|rfl|rfl)
   all_goals first|exact⟨rfl,rfl⟩|trivial
def L7:Id→Nat
 | none=>100
 | some p=>rk p
theorem zW {W:Wd} (hW:dj W) (hl:W.length≤3) {dat:Nat→Int} {ts:List Nat} (T:tb W ts):(∀b∈B0 W dat ts,∀s∈b.rows,∀p,s.tgt=some p→L7 p<L7 b.id)∧∀b∈B0 W dat ts,L7 b.id<101:=by
 delta W hW hl dat ts T at ⊢;refine⟨fun b hb s hs q hq=>?_,fun b hb=>?_⟩
 ·rcases dU.mp hb with⟨p,h1,h2,rfl⟩|rfl
  ·obtain⟨d,hd,rfl⟩:=rl hs hq;exact(dB hW h2 hd).2.1
  ·obtain⟨t,ht,rfl⟩:=ou hs hq;have:=(PV.rk hl (lL (p:=(t,0)).mpr (T.pos t ht))).1
   show rk (t,0)<100
   exact Gg this
 ·rcases dU.mp hb with⟨p,h1,h2,rfl⟩|rfl
  ·have:=(PV.rk hl h2).1
   show rk p<101
   exact Gf this
  ·show 100<101
   omega
def bV.isB:bV→Bool
 | .bl ..=>true
 | _=>false
theorem pW (pos:Id→Nat):∀(l:List bV) (i:Nat),(∀s∈l,∀r f,s=.fix r f→r.isBL=false)→(bi (fR pos l i) i).length=(l.filter bV.isB).length
 | [],_,_=>rfl
 | s::r,i,h=>by
  erw[be,bC,List.length_append,pW pos r (i+1) (fun s hs=>h s (.tail _ hs)),List.filter_cons];have h0:=h s (.head _)
  cases s with
  | fix q f=>
   have:=h0 q f rfl
   simp[cM,bV.isB,this]
  | bl p k mp=>simp[cM,bV.isB,aN.isBL];exact AO
  | hld p=>simp[cM,bV.isB,aN.isBL]
theorem nN (pos:Id→Nat):∀(B:List cK) (i:Nat),(∀b∈B,∀s∈b.rows,∀r f,s=.fix r f→r.isBL=false)→(bi (d7 pos B i) i).length=(B.map fun b=>(b.rows.filter bV.isB).length).sum
 | [],_,_=>rfl
 | b::r,i,h=>by
  erw[bB,ej,List.length_append,ff,pW pos b.rows i (h b (.head _)),nN pos r _ (fun b hb=>h b (.tail _ hb))];simp
theorem pz.nbl {X:Bs} {B:List cK} (O:pz X B):∀b∈B,∀s∈b.rows,∀r f,s=.fix r f→r.isBL=false:=fun b hb s hs r f e=>by
 obtain⟨l,rr,k,el,hl⟩:=O.rows b hb;rw[el,List.mem_append,List.mem_singleton]at hs;rcases hs with hs|hs
 ·have:=hl s hs;rw[e]at this;exact this.1
 ·rw[e]at hs;cases hs;rfl
theorem mP {α:Type} {f:α→Nat} {k:Nat}:∀{l:List α},(∀x∈l,f x≤k)→(l.map f).sum≤l.length*k
 | [],_=>by simp
 | x::r,h=>by
  have h1:=h x (.head _)
  have h2:=mP (l:=r) fun y hy=>h y (.tail _ hy)
  erw[List.map_cons,List.sum_cons,List.length_cons,Nat.succ_mul];exact AU h1 h2
set_option tactic.hygienic true in
theorem li {W:Wd} (hW:dj W) {dat:Nat→Int}:∀(ts:List Nat),(dD W dat ts).length≤3*ts.length
 | []=>by simp[dD]
 | t::r=>by
  have h1:=li hW (dat:=dat) r
  have h2:(jI W dat t).length≤3:=by
   unfold jI gh mz;erw[List.length_map,List.length_map,List.length_range];split
   ·rename_i m hm;exact(hW t m hm).few
   ·omega
  unfold dD at h1 ⊢;erw[List.flatMap_cons,List.length_append,List.length_cons];exact Ge h2 h1
theorem vu {W:Wd} (hW:dj W) {dat:Nat→Int} {ts:List Nat} (T:tb W ts):∀b∈B0 W dat ts,b.rows.length≤11∧(b.rows.filter bV.isB).length≤3:=fun b hb=>by
 have hfw:=T.few
 rcases dU.mp hb with⟨p,h1,h2,rfl⟩|rfl
 ·have h3:=gU hW p
  have h4:(aq W p).length≤2:=by split at h3<;>omega
  have h5:=List.length_filter_le bV.isB ((aq W p).map (eO p.2))
  rw[List.length_map]at h5;unfold ag dE eL;simp[bV.isB];exact Gd h4 h5
 ·have h5:=List.length_filter_le bV.isB (ts.map (fun t=>bV.bl (some (t,0)) 0 []))
  rw[List.length_map]at h5;unfold af fq;simp[bV.isB];exact Gc hfw h5
theorem CH {W:Wd} (hW:dj W) {dat:Nat→Int} {ts:List Nat} (T:tb W ts):(B0 W dat ts).length≤10:=by
 have h1:=li hW (dat:=dat) ts
 have h2:=T.few
 unfold B0;erw[List.length_append];simp;exact Gb h1 h2
set_option tactic.hygienic true in
theorem zt {X:Bs} {B:List cK} (O:pz X B) (h1:B.length≤10) (h2:∀b∈B,b.rows.length≤11∧(b.rows.filter bV.isB).length≤3) (h3:X.cmds.length≤60) (h4:(X.cmds.map (fun U=>U.1)).Nodup) (h5:X.words.length≤1000)
 (h6:∀b∈B,∀s∈b.rows,∀p k mp,s=.bl p k mp→mp.length≤1000):wD (eu X B):=by
 delta X B O h1 h2 h3 h4 h5 h6 at ⊢
 have htot:au B≤110:=by
  have:=mP (l:=B) (f:=fun b=>b.rows.length) (k:=11) fun b hb=>(h2 b hb).1
  unfold au;exact Ga this h1
 have hposle:∀p∈B.map (fun U=>U.id),az B p<au B:=fun p hp=>by
  obtain⟨b,hb,rfl⟩:=ga hp;have h1:=mo O.nd hb
  have h2:=O.pos hb
  exact G9 h2 h1
 have hrow:∀(i:Nat) a,(eu X B).ar[i]?=some a→∃b∈B,∃s∈b.rows,a=cM (az B) i s:=fun i a h=>by
  have hi:i<au B:=by erw[←dT (X:=X)];rw[List.getElem?_eq_some_iff] at h;exact h.1
  obtain⟨b,hb,o,ho,rfl⟩:=KF O.nd hi;have hs:b.rows[o]?=some b.rows[o]:=List.getElem?_eq_getElem ho
  rw[jw O hb hs] at h;exact⟨b,hb,_,List.getElem_mem ho,(Option.some.inj h).symm⟩
 have hmapm:∀q∈bi (eu X B).ar 0,∃b∈B,∃s∈b.rows,∃p k,s=.bl p k q.2:=fun q hq=>by
  have hm:∀(l:List aT) (i:Nat),q∈bi l i→∃j a,l[j]?=some a∧a.ins.isBL=true∧q=(i+j+1,a.mp):=by
   intro l;induction l with
   | nil=>intro i h;cases h
   | cons a r ih=>
    intro i h;rw[bC,List.mem_append] at h;rcases h with h|h
    ·split at h
     ·rename_i hb;simp at h;exact⟨0,a,rfl,hb,by erw[h]⟩
     ·cases h
    ·obtain⟨j,a',e1,e2,e3⟩:=ih _ h;exact⟨j+1,a',e1,e2,by erw[e3];congr 1;exact AN⟩
  obtain⟨j,a,e1,e2,e3⟩:=hm _ _ hq;obtain⟨b,hb,s,hs,rfl⟩:=hrow j a e1;cases s with
  | fix r f=>have:=O.nbl b hb _ hs r f rfl;unfold cM at e2;dsimp only at e2;rw[this] at e2;cases e2
  | hld p=>cases e2
  | bl p k mp=>exact⟨b,hb,_,hs,p,k,by erw[e3];rfl⟩
 refine⟨⟨?_,?_,?_,?_,?_,?_,?_,?_⟩,h5,?_⟩
 ·delta i a t k ha hi;injection (hrow i a ha) with b hb s hs rfl;cases s with
  | fix r f=>have:=O.nbl b hb _ hs r f rfl;unfold cM at hi;dsimp only at hi;rw[hi] at this;cases this
  | hld p=>cases hi
  | bl p k' mp=>
   delta p k' mp at *;unfold cM at hi;dsimp only at hi;cases hi;erw[mn,dT];have:=hposle p (O.tgt b hb _ hs p rfl)
   exact G8 this
 ·delta i a ha hf;injection (hrow i a ha) with b hb s hs rfl;cases s with
  | fix r f=>unfold cM at hf;dsimp only at hf;split at hf<;>cases hf
  | bl p k' mp=>cases hf
  | hld p=>
   delta p at *;have:=hposle p (O.tgt b hb _ hs p rfl)
   erw[dT];unfold cM;simp only[aN.isBL,aN.three];exact⟨trivial,by exact hU,by exact AM this⟩
 ·erw[dT];have:=hposle none O.body
  show az B none≤_
  omega
 ·delta p hp;injection (List.mem_map.mp hp) with c hc rfl;have:=hposle _ (O.cmds c hc)
  erw[dT];show az B c.2≤_
  omega
 ·show((X.cmds.map fun p=>(p.1,az B p.2)).map (fun U=>U.1)).Nodup
  erw[List.map_map];exact h4
 ·show(X.cmds.map fun p=>(p.1,az B p.2)).length≤60
  erw[List.length_map];exact h3
 ·erw[dT];omega
 ·show(bi (d7 (az B) B 0) 0).length<64
  erw[nN _ _ _ O.nbl];have:=mP (l:=B) (f:=fun b=>(b.rows.filter bV.isB).length) (k:=3) fun b hb=>(h2 b hb).2
  exact G7 this h1
 ·delta q hq;injection (hmapm q hq) with b hb s hs p k e;have:=h6 b hb s hs p k q.2 e
  omega
theorem KW {W:Wd} {dat:Nat→Int} {ts:List Nat}:∀b∈B0 W dat ts,∀s∈b.rows,∀p k mp,s=.bl p k mp→mp.length≤1000:=by
 delta W dat ts at ⊢;delta b hb s hs p k mp e;subst e;rcases dU.mp hb with⟨p',h1,h2,rfl⟩|rfl
 delta p' at h1 h2 hb hs
 ·unfold ag dE eL at hs;simp only[List.mem_append,List.mem_cons,List.not_mem_nil,or_false,List.mem_map]at hs;rcases hs with((h|h|h|h)|⟨d,hd,h⟩)|(h|h|h)
  all_goals first|(cases h;done)|skip
  delta d at hd h;unfold eO at h;split at h
  ·cases h
  ·cases h;simp
 ·unfold af fq at hs;simp only[List.mem_append,List.mem_cons,List.not_mem_nil,or_false,List.mem_map]at hs;rcases hs with((h|h|h|h)|⟨d,hd,h⟩)|(h|h|h|h)
  all_goals first|(cases h;done)|skip
  cases h;simp
def ix (x:Str):Nat:=if x="A" then 0 else if x="B" then 1 else 2
theorem uU {t:Nat} (h:t<3):ix (nm t)=t:=by
 match t,h with
 | 0,_=>decide +kernel
 | 1,_=>decide +kernel
 | 2,_=>decide +kernel
def aV (W:Wd):bz where
 R:=fun x=>fE (ix x) (W[ix x]?.getD ⟨[],[]⟩)
 names:=aL W.length
 rank:=ix
theorem pU {N:Nat} {x:Str} (h:x∈aL N):∃t,t<N∧x=nm t:=by
 obtain⟨t,ht,rfl⟩:=List.mem_map.mp h;exact⟨t,List.mem_range.mp ht,rfl⟩
theorem gP {N t:Nat} (h:t<N):nm t∈aL N:=List.mem_map.mpr ⟨t,List.mem_range.mpr h,rfl⟩
theorem cA {W:Wd} (hl:W.length≤3) {t:Nat} {m:Mod} (h:W[t]?=some m):(aV W).R (nm t)=fE t m:=by
 have ht:t<W.length:=by rw[List.getElem?_eq_some_iff]at h;exact h.1
 show fE (ix (nm t)) (W[ix (nm t)]?.getD ⟨[],[]⟩)=_
 erw[uU (by omega),h];rfl
theorem d9 {W:Wd} (hl:W.length≤3) {x:Str} (h:x∈(aV W).names):∃t m,t<3∧x=nm t∧W[t]?=some m∧(aV W).R x=fE t m:=by
 obtain⟨t,ht,rfl⟩:=pU h;have hm:W[t]?=some W[t]:=List.getElem?_eq_getElem ht
 exact⟨t,W[t],by omega,rfl,hm,cA hl hm⟩
theorem uV {W:Wd} (hW:dj W) {t:Nat} {m:Mod} (h:W[t]?=some m):m.imps.length≤t:=bk (n:=t) ((hW t m h).asc.imp fun h=>Nat.ne_of_lt h) (hW t m h).imps
theorem lF {W:Wd} (hW:dj W) (hl:W.length≤3):(aV W).Ok (eJ W):=by
 delta W at hW hl;refine⟨fun x hx=>?_,fun x hx=>?_,fun x hx p hp=>?_,?_,fun x hx=>?_⟩
 ·obtain⟨t,m,ht,rfl,hm,e⟩:=d9 hl hx;erw[e];exact oe hl hm
 ·obtain⟨t,m,ht,rfl,hm,e⟩:=d9 hl hx;erw[e];rfl
 ·obtain⟨t,m,ht,rfl,hm,e⟩:=d9 hl hx;rw[e]at hp;obtain⟨i,hi,rfl⟩:=List.mem_map.mp hp;have hit:=(hW t m hm).imps i hi
  have htl:t<W.length:=by rw[List.getElem?_eq_some_iff]at hm;exact hm.1
  have him:W[i]?=some W[i]:=List.getElem?_eq_getElem (by exact tC hit htl)
  refine⟨gP (by exact tC hit htl),?_,?_⟩
  ·show ix (nm i)<ix (nm t)
   erw[uU (by exact yV hit htl hl),uU (by omega)];exact hit
  ·erw[cA hl him];rfl
 ·show(aL W.length).length≤1000
  simp[aL];omega
 ·obtain⟨t,m,ht,rfl,hm,e⟩:=d9 hl hx;erw[e];show(m.imps.map fun i=>(nm i,50+(i:Int))).length≤1000
  erw[List.length_map];have:=uV hW hm
  exact G6 this ht
theorem jG {P:bR→Prop} {t:Nat} {starts:Nat→Nat} {imps:List Nat} (h1:∀e,∀a∈eM t e,P a) (h2:∀a∈jJ,P a):∀(l:List (List bg)) (e:Nat),(∀ds∈l,∀d∈ds,∀e here,P (gH starts imps e here d))→∀a∈eK t starts imps l e,P a
 | [],_,_,a,h=>by cases h
 | ds::r,e,h3,a,h=>by
  rw[g9,List.mem_append]at h;rcases h with h|h
  ·unfold mh at h;rw[List.mem_append,List.mem_append]at h;rcases h with(h|h)|h
   ·exact h1 e a h
   ·have key:∀(l:List bg) (here:Nat),(∀d∈l,d∈ds)→a∈bu starts imps e l here→P a:=by
     intro l;induction l with
     | nil=>intro here _ h;cases h
     | cons d l ih=>
      intro here hs h;rw[dM,List.mem_cons]at h;rcases h with rfl|h
      ·exact h3 ds (.head _) d (hs d (.head _)) e here
      ·exact ih _ (fun d hd=>hs d (.tail _ hd)) h
    exact key ds _ (fun d hd=>hd) h
   ·exact h2 a h
  ·exact jG h1 h2 r (e+1) (fun ds hds=>h3 ds (.tail _ hds)) a h
theorem qd {W:Wd} (hW:dj W) (hl:W.length≤3):(aV W).Lk:=by
 delta W hW hl at ⊢;refine⟨fun x hx=>?_,fun x hx=>?_,fun x hx=>?_,fun x hx j m' w h=>?_,fun x hx=>?_,fun x hx p hp=>?_,?_⟩
 ·obtain⟨t,m,ht,rfl,hm,e⟩:=d9 hl hx;erw[e];show(eK t (ae m.procs) m.imps m.procs 0).length≤40
  erw[jF]
  have h1:=mP (l:=m.procs) (f:=fun ds=>7+ds.length) (k:=9) fun ds hds=>by
   obtain⟨e',he',rfl⟩:=List.mem_iff_getElem.mp hds;have:=(hW t m hm).short e' _ (List.getElem?_eq_getElem he')
   split at this<;>(first|exact G5 this he'|exact G4 this he')
  have:=(hW t m hm).few
  exact G3 h1 this
 ·obtain⟨t,m,ht,rfl,hm,e⟩:=d9 hl hx;erw[e];show 0≤4*((t:Int)+1)∧4*((t:Int)+1)≤1000
  exact G2 ht
 ·obtain⟨t,m,ht,rfl,hm,e⟩:=d9 hl hx;erw[e];exact⟨900+(t:Int),by exact G1,rfl⟩
 delta x j m' w at hx h
 ·obtain⟨t,m,ht,rfl,hm,e⟩:=d9 hl hx;delta t m at ht hx h hm e;rw[e] at h ⊢;obtain⟨a,_,ha,hf⟩:=eP.mp h
  have hP:=jG (P:=fun a=>∀m' w,a.fx=some (.call m' w)→∃ds∈m.procs,∃d∈ds,d.k=.away∧m'=m.imps.idxOf d.m+1∧w=d.w+1) (t:=t) (starts:=ae m.procs) (imps:=m.imps)
   (fun e a ha m' w hf=>by
    unfold eM at ha;simp only[List.mem_cons,List.not_mem_nil,or_false] at ha
    rcases ha with rfl|rfl|rfl|rfl<;>cases hf)
   (fun a ha m' w hf=>by
    unfold jJ at ha;simp only[List.mem_cons,List.not_mem_nil,or_false] at ha
    rcases ha with rfl|rfl|rfl<;>cases hf) m.procs 0
   (fun ds hds d hd e here m' w hf=>by
    unfold gH at hf;refine⟨ds,hds,d,hd,?_⟩;obtain⟨k,dm,dw⟩:=d;cases k with
    | own=>cases hf
    | held=>cases hf
    | away=>cases hf;exact⟨rfl,rfl,rfl⟩) a (List.mem_of_getElem? ha) m' w hf
  obtain⟨ds,hds,d,hd,hk,rfl,rfl⟩:=hP;obtain⟨e',he',rfl⟩:=List.mem_iff_getElem.mp hds;delta a d e' at ha hk h hf he' hds hd;have hdo:=(hW t m hm).deeds e' _ (List.getElem?_eq_getElem he') d hd
  unfold ef at hdo;rw[hk] at hdo;obtain⟨h1,mm,h2,h3⟩:=hdo;have hlt:=List.idxOf_lt_length_iff.mpr h1
  have hil:=uV hW hm
  refine⟨m.imps.idxOf d.m,d.w,nm d.m,50+(d.m:Int),ae mm.procs d.w,rfl,rfl,?_,?_,by exact G0 hlt hil ht,by have:=(hW _ mm h2).few;exact FW h3 this⟩
  ·show(m.imps.map fun i=>(nm i,50+(i:Int)))[_]?=_
   erw[List.getElem?_map,List.getElem?_eq_getElem hlt,List.getElem_idxOf];rfl
  ·erw[cA hl h2];show((List.range mm.procs.length).map (ae mm.procs))[_]?=_
   erw[List.getElem?_map,List.getElem?_range h3];rfl
 ·obtain⟨t,m,ht,rfl,hm,e⟩:=d9 hl hx;erw[e];refine jG (P:=fun a=>∀m' w,a.fx=some (.call m' w)→a.ins.isBL=true) ?_ ?_ _ _ ?_
  ·intro e a ha m' w hf;unfold eM at ha;simp only[List.mem_cons,List.not_mem_nil,or_false] at ha;rcases ha with rfl|rfl|rfl|rfl<;>cases hf
  ·intro a ha m' w hf;unfold jJ at ha;simp only[List.mem_cons,List.not_mem_nil,or_false] at ha;rcases ha with rfl|rfl|rfl<;>cases hf
  ·intro ds _ d _ e here m' w hf;unfold gH at hf ⊢;obtain⟨k,dm,dw⟩:=d;cases k with
   | own=>cases hf
   | held=>cases hf
   | away=>rfl
 ·obtain⟨t,m,ht,rfl,hm,e⟩:=d9 hl hx;rw[e] at hp
  have hall:=jG (P:=fun a=>a.mp.length≤1) (t:=t) (starts:=ae m.procs) (imps:=m.imps)
   (fun e a ha=>by
    unfold eM at ha;simp only[List.mem_cons,List.not_mem_nil,or_false] at ha
    rcases ha with rfl|rfl|rfl|rfl<;>simp)
   (fun a ha=>by
    unfold jJ at ha;simp only[List.mem_cons,List.not_mem_nil,or_false] at ha
    rcases ha with rfl|rfl|rfl<;>simp) m.procs 0
   (fun ds hds d hd e here=>by unfold gH;split<;>simp)
  have hmm:∀(l:List bR) (i:Nat),p∈bx l i→∃a∈l,p.2=a.mp:=by
   intro l;induction l with
   | nil=>intro i h;cases h
   | cons a r ih=>
    intro i h;rw[cF,List.mem_append] at h;rcases h with h|h
    ·split at h
     ·simp at h;exact⟨a,.head _,by erw[h]⟩
     ·cases h
    ·obtain⟨a',h1,h2⟩:=ih _ h;exact⟨a',.tail _ h1,h2⟩
  obtain⟨a,ha,e2⟩:=hmm _ _ hp;erw[e2];have:=hall a ha
  omega
 ·show(aL W.length).length≤10
  simp[aL];omega
theorem ig (start:Nat) (dat:Int) (pl:Nat→Nat→Nat):∀(a b:List bR) (i:Nat),oO start dat pl (a++b) i=oO start dat pl a i++oO start dat pl b (i+a.length)
 | [],_,_=>rfl
 | x::r,b,i=>by erw[List.cons_append,eH,eH,ig start dat pl r,List.length_cons,show i+1+r.length=i+(r.length+1)by exact vV];rfl
section
variable {W:Wd} (hW:dj W) (hl:W.length≤3) {start:Nat} {dat:Int} {pl:Nat→Nat→Nat} {pos:Id→Nat} {t:Nat} {m:Mod} (hm:W[t]?=some m)
 (hpo:∀e,e<m.procs.length→pos (some (t,e))=start+ae m.procs e)
 (hpl:∀d:bg,d.k=.away→d.m∈m.imps→PV W d.to→pos (some d.to)=pl (m.imps.idxOf d.m+1) (d.w+1))
include hW hl hm hpo hpl
theorem nU {e:Nat} {ds0:List bg} (hds0:m.procs[e]?=some ds0):∀(ds:List bg) (here:Nat),(∀d∈ds,d∈ds0)→oO start dat pl (bu (ae m.procs) m.imps e ds here) here=fR pos (ds.map (eO e)) (start+here)
 | [],_,_=>rfl
 | d::r,here,hs=>by
  erw[dM,eH,List.map_cons,be,nU hds0 r (here+1) (fun d hd=>hs d (.tail _ hd))];congr 1;have hdo:=(hW t m hm).deeds e ds0 hds0 d (hs d (.head _))
  have hp:PV W d.to:=(dB hW (p:=(t,e)) ⟨m,hm,by rw[List.getElem?_eq_some_iff]at hds0;exact hds0.1⟩ (by unfold aq;dsimp only;erw[hm];dsimp only;erw[hds0];exact hs d (.head _))).1
  have h1:=hpl d
  obtain⟨k,dm,dw⟩:=d;unfold ef at hdo;cases k with
  | own=>
   obtain⟨h2,h3,h4⟩:=hdo;dsimp only at h2 h3 h4;subst h2;have:=hpo dw h4
   unfold gH oP eO cM bg.to;dsimp only;erw[this];congr 2;exact FV
  | held=>
   obtain⟨h2,h3,h4⟩:=hdo;dsimp only at h2 h3 h4;subst h2;have:=hpo dw h4
   unfold gH oP eO cM bg.to;dsimp only;erw[this];simp only[aN.setThree,aN.three];congr 2;exact FU
  | away=>
   obtain⟨h2,_⟩:=hdo;dsimp only at h2;have:=h1 rfl h2 hp
   unfold gH oP eO cM;dsimp only;erw[this];congr 2
theorem xN {e:Nat} {ds:List bg} (hds:m.procs[e]?=some ds) (dt:Nat→Int) (hdt:dt t=dat):oO start dat pl (mh t (ae m.procs) m.imps e ds) (ae m.procs e)=fR pos (ag W dt (t,e)).rows (start+ae m.procs e):=by
 have hdd:aq W (t,e)=ds:=by unfold aq;dsimp only;erw[hm];dsimp only;erw[hds];rfl
 have h4:(eM t e).length=4:=rfl
 have h5:(dE (dt t) t e).length=4:=rfl
 unfold mh ag;dsimp only;erw[hdd,ig,ig,fg,fg,h4,h5,nU hW hl hm hpo hpl hds ds _ (fun d hd=>hd),hdt];congr 1;congr 1;simp only[eM,dE,uS,eH,gJ,be,oP,cM,aN.setThree,aN.three,Int.zero_add];simp
theorem qa (dt:Nat→Int) (hdt:dt t=dat):∀(suf pre:List (List bg)),m.procs=pre++suf→oO start dat pl (eK t (ae m.procs) m.imps suf pre.length) (ae m.procs pre.length)=d7 pos ((List.range' pre.length suf.length).map fun e=>ag W dt (t,e)) (start+ae m.procs pre.length)
 | [],_,_=>rfl
 | ds::r,pre,e=>by
  have hds:m.procs[pre.length]?=some ds:=by erw[e];simp
  have ih:=qa dt hdt r (pre++[ds]) (by erw[e];simp)
  rw[List.length_append,List.length_singleton,fD hds]at ih;have hdd:aq W (t,pre.length)=ds:=by unfold aq;dsimp only;erw[hm];dsimp only;erw[hds];rfl
  have hbl:(ag W dt (t,pre.length)).rows.length=7+ds.length:=by
   unfold ag dE eL;erw[List.length_append,List.length_append,List.length_map,hdd];simp;exact AK
  erw[g9,ig,sW,xN hW hl hm hpo hpl hds dt hdt,List.length_cons,List.range'_succ,List.map_cons,bB,hbl,ih,Nat.add_assoc]
end
theorem gN:∀{pre suf:List cK} {p:Id},p∉pre.map (fun U=>U.id)→az (pre++suf) p=au pre+az suf p
 | [],_,_,_=>by simp[au]
 | b::r,suf,p,h=>by
  rw[List.map_cons,List.mem_cons,not_or]at h;erw[List.cons_append,bv,if_neg (fun e=>h.1 e.symm),gN h.2];simp[au];exact FT
theorem fC (a b:List cK):au (a++b)=au a+au b:=by simp[au]
theorem wA {W:Wd} {dat:Nat→Int} {t e:Nat} {m:Mod} {ds:List bg} (hm:W[t]?=some m) (hds:m.procs[e]?=some ds):(ag W dat (t,e)).rows.length=7+ds.length:=by
 have hdd:aq W (t,e)=ds:=by unfold aq;dsimp only;erw[hm];dsimp only;erw[hds];rfl
 unfold ag dE eL;erw[List.length_append,List.length_append,List.length_map,hdd];simp;exact AK
theorem iG {W:Wd} {dat:Nat→Int} {t:Nat} {m:Mod} (hm:W[t]?=some m):∀e,e≤m.procs.length→au ((List.range e).map fun e=>ag W dat (t,e))=ae m.procs e
 | 0,_=>by simp[au,ae]
 | e+1,h=>by
  have hds:m.procs[e]?=some m.procs[e]:=List.getElem?_eq_getElem (by exact Ba h)
  erw[List.range_succ,List.map_append,fC,iG hm e (by exact z8 h),fD hds];simp[au,wA hm hds]
theorem yg {W:Wd} {t:Nat} {m:Mod} (hm:W[t]?=some m):mz W t=m.procs.length:=by unfold mz;erw[hm]
theorem qH {W:Wd} {dat:Nat→Int} {t:Nat} {m:Mod} (hm:W[t]?=some m):jI W dat t=(List.range m.procs.length).map fun e=>ag W dat (t,e):=by
 unfold jI gh;erw[yg hm,List.map_map];rfl
theorem jV {W:Wd} {dat:Nat→Int} {t:Nat} {m:Mod} (hm:W[t]?=some m):au (jI W dat t)=ae m.procs m.procs.length:=by erw[qH hm,iG hm _ (Nat.le_refl _)]
theorem mW {t:Nat} {m:Mod}:(fE t m).ar.length=ae m.procs m.procs.length:=by
 show(eK t (ae m.procs) m.imps m.procs 0).length=_
 erw[jF];unfold ae;erw[List.take_length]
theorem w0 {W:Wd} {dat:Nat→Int} {t e:Nat} {m:Mod} (hm:W[t]?=some m) (he:e<m.procs.length) (rest:List cK):az (jI W dat t++rest) (some (t,e))=ae m.procs e:=by
 have hr:List.range m.procs.length=List.range e++e::(List.range m.procs.length).drop (e+1):=by
  have h1:(List.range m.procs.length).take e=List.range e:=by erw[List.take_range,Nat.min_eq_left (by omega)]
  have h2:=List.drop_eq_getElem_cons (l:=List.range m.procs.length) (i:=e) (by simpa using he)
  rw[List.getElem_range]at h2;erw[←h1,←h2,List.take_append_drop]
 erw[qH hm,hr,List.map_append,List.map_cons,List.append_assoc,gN,iG hm e (by omega)]
 ·erw[List.cons_append,bv,if_pos (show(ag W dat (t,e)).id=some (t,e)from rfl),Nat.add_zero]
 ·intro h;rw[List.map_map]at h;obtain⟨j,hj,e1⟩:=List.mem_map.mp h;rw[List.mem_range]at hj;have e2:(some (t,j):Id)=some (t,e):=e1
  simp at e2;exact z6 hj e2
section
variable {W:Wd} (hW:dj W) (hl:W.length≤3)
def dF (W:Wd) (ts:List Nat):List (Str×RO):=ts.map fun t=>(nm t,(aV W).R (nm t))
include hW hl
theorem gO {dat:Nat→Int}:∀{ts:List Nat} {t e:Nat} {m:Mod} {rest:List cK},(∀t∈ts,t<W.length)→t∈ts→W[t]?=some m→e<m.procs.length→az (dD W dat ts++rest) (some (t,e))=c9 (dF W ts) (nm t)+ae m.procs e
 | [],_,_,_,_,_,h,_,_=>by cases h
 | t'::r,t,e,m,rest,hts,ht,hm,he=>by
  have ht':=hts t' (.head _)
  have htl:t<W.length:=by rw[List.getElem?_eq_some_iff]at hm;exact hm.1
  have hm':W[t']?=some W[t']:=List.getElem?_eq_getElem ht'
  unfold dD dF;erw[List.flatMap_cons,List.append_assoc,List.map_cons,gu];by_cases h:t'=t
  ·subst h;erw[if_pos rfl,w0 hm he];simp
  ·have hn:nm t'≠nm t:=fun e=>h (i9 (by omega) (by omega) e)
   have hr:t∈r:=by
    cases ht with
    | head=>exact absurd rfl h
    | tail _ h=>exact h
   erw[if_neg hn,gN]
   ·have ih:=gO (dat:=dat) (ts:=r) (rest:=rest) (fun t h=>hts t (.tail _ h)) hr hm he
    unfold dD dF at ih;erw[ih,jV hm',cA hl hm',mW,Nat.add_assoc]
   ·intro h2;obtain⟨b,hb,e1⟩:=List.mem_map.mp h2;unfold jI at hb;obtain⟨p,hp,rfl⟩:=List.mem_map.mp hb;have e2:(some p:Id)=some (t,e):=e1
    cases e2;exact h (fL.mp hp).1.symm
theorem l7 {dat:Nat→Int}:∀{pre suf:List Nat} {t:Nat},(∀u∈pre++t::suf,u<W.length)→(pre++t::suf).Nodup→c9 (dF W (pre++t::suf)) (nm t)=au (dD W dat pre)
 | [],suf,t,_,_=>by simp[dF,tW,gu,dD,au]
 | t'::r,suf,t,hts,hn=>by
  have ht':=hts t' (.head _)
  have ht:=hts t (by simp)
  rw[List.cons_append,List.nodup_cons]at hn;have hne:t'≠t:=fun e=>hn.1 (by erw[e];simp)
  have hn2:nm t'≠nm t:=fun e=>hne (i9 (by omega) (by omega) e)
  have hm':W[t']?=some W[t']:=List.getElem?_eq_getElem ht'
  have ih:=l7 (dat:=dat) (pre:=r) (suf:=suf) (t:=t) (fun t h=>hts t (.tail _ h)) hn.2
  unfold dF at ih ⊢;unfold dD at ih ⊢;erw[List.cons_append,List.map_cons,gu,if_neg hn2,ih,List.flatMap_cons,fC,jV hm',cA hl hm',mW]
end
theorem qm {pos:Id→Nat} {f:Nat→Nat}:∀(ts:List Nat) (J:JO),(∀t∈ts,f t=pos (some (t,0)))→(ts.map f).foldl ma J={ J with ar:=J.ar++fR pos (ts.map fun t=>.bl (some (t,0)) 0 []) J.ar.length }
 | [],J,_=>by simp[gJ,be]
 | t::r,J,h=>by
  erw[List.map_cons,List.foldl_cons,qm r _ (fun t ht=>h t (.tail _ ht)),List.map_cons,be];unfold ma JO.snoc;dsimp only;erw[h t (.head _),List.length_append,List.append_assoc];rfl
def setP:List (Str×Id)→Str→Id→List (Str×Id)
 | [],x,v=>[(x,v)]
 | (k,u)::r,x,v=>if k=x then(k,v)::r else(k,u)::setP r x v
theorem rP {x:Str} {v:Id}:setP [] x v=[(x,v)]:=rfl
theorem jl {k x:Str} {u v:Id} {r:List (Str×Id)}:setP ((k,u)::r) x v=if k=x then(k,v)::r else(k,u)::setP r x v:=rfl
theorem rS {f:Id→Nat}:∀{l:List (Str×Id)} {x:Str} {v:Id},(setP l x v).map (fun c=>(c.1,f c.2))=p9 (l.map fun c=>(c.1,f c.2)) x (f v)
 | [],_,_=>rfl
 | (k,u)::r,x,v=>by
  erw[jl,List.map_cons,jm];split
  ·rfl
  ·erw[List.map_cons,rS]
set_option tactic.hygienic true in
theorem rR:∀{l:List (Str×Id)} {x:Str} {v:Id} {c:Str×Id},c∈setP l x v→c=(x,v)∨c∈l
 | [],_,_,_,h=>by rw[rP,List.mem_singleton]at h;exact .inl h
 | (k,u)::r,x,v,c,h=>by
  rw[jl]at h;split at h
  ·rename_i e;rw[List.mem_cons]at h;rcases h with rfl|h
   ·exact .inl (by erw[e])
   ·exact .inr (.tail _ h)
  ·rw[List.mem_cons]at h;rcases h with rfl|h
   ·exact .inr (.head _)
   ·rcases rR h with h|h
    ·exact .inl h
    ·exact .inr (.tail _ h)
theorem pI:∀(l:List (Str×Id)) (x:Str) (v:Id),(setP l x v).map (fun U=>U.1)=if x∈l.map (fun U=>U.1)then l.map (fun U=>U.1)else l.map (fun U=>U.1)++[x]
 | [],_,_=>by simp[rP,jl]
 | (k,u)::r,x,v=>by
  erw[jl];by_cases e:k=x
  ·subst e;simp
  ·erw[if_neg e,List.map_cons,pI r x v];have e':¬x=k:=fun h=>e h.symm
   by_cases h:x∈r.map (fun U=>U.1)
   ·erw[if_pos h,if_pos (by erw[List.map_cons];exact .tail _ h)];rfl
   ·erw[if_neg h,if_neg (by erw[List.map_cons,List.mem_cons,not_or];exact⟨e',h⟩)];rfl
def bM (p:Nat×Nat):Str:=l8 (nm p.1,eE p.2)
def ip (ws:List (Nat×Nat)):List (Str×Id):=ws.foldl (fun cs p=>setP cs (bM p) (some p)) []
set_option tactic.hygienic true in
theorem hE:∀(ws:List (Nat×Nat)) (cs:List (Str×Id)),(cs.map (fun U=>U.1)).Nodup→
 ((ws.foldl (fun cs p=>setP cs (bM p) (some p)) cs).map (fun U=>U.1)).Nodup∧(ws.foldl (fun cs p=>setP cs (bM p) (some p)) cs).length≤cs.length+ws.length∧
 (∀c∈ws.foldl (fun cs p=>setP cs (bM p) (some p)) cs,c∈cs∨∃p∈ws,c=(bM p,some p))∧∀x,x∈(ws.foldl (fun cs p=>setP cs (bM p) (some p)) cs).map (fun U=>U.1)↔x∈cs.map (fun U=>U.1)∨∃p∈ws,x=bM p
 | [],cs,h=>⟨h,by simp,fun c hc=>.inl hc,fun x=>by simp⟩
 | p::r,cs,h=>by
  erw[List.foldl_cons]
  have hk:=pI cs (bM p) (some p)
  have hn:((setP cs (bM p) (some p)).map (fun U=>U.1)).Nodup:=by
   erw[hk]
   split
   ·exact h
   ·rename_i hx
    erw[List.nodup_append]
    exact⟨h,by simp,fun a ha b hb e=>by rw[List.mem_singleton]at hb;subst hb;subst e;exact hx ha⟩
  have hlen:(setP cs (bM p) (some p)).length≤cs.length+1:=by
   have:=congrArg List.length hk
   rw[List.length_map]at this
   split at this<;>simp at this<;>(first|exact FS this|exact FR this)
  obtain⟨h1,h2,h3,h4⟩:=hE r _ hn
  refine⟨h1,by erw[List.length_cons];exact Cf h2 hlen,fun c hc=>?_,fun x=>?_⟩
  ·rcases h3 c hc with h|⟨q,hq,e⟩
   ·rcases rR h with h|h
    ·exact .inr ⟨p,.head _,h⟩
    ·exact .inl h
   ·exact .inr ⟨q,.tail _ hq,e⟩
  ·erw[h4,hk]
   constructor
   ·rintro(h|⟨q,hq,e⟩)
    ·split at h
     ·exact .inl h
     ·rw[List.mem_append,List.mem_singleton]at h
      rcases h with h|h
      ·exact .inl h
      ·exact .inr ⟨p,.head _,h⟩
    ·exact .inr ⟨q,.tail _ hq,e⟩
   ·rintro(h|⟨q,hq,e⟩)
    ·left;split
     ·exact h
     ·exact List.mem_append.mpr (.inl h)
    ·cases hq with
     | head=>
      left
      split
      ·rename_i hx;erw[e];exact hx
      ·erw[e];simp
     | tail _ hq=>exact .inr ⟨q,hq,e⟩
def dR (W:Wd) (ws:List (Nat×Nat)):List Str:=(ws.map fun p=>nm p.1).foldl (fun a y=>(aV W).need y a) []
def aP (W:Wd) (ws:List (Nat×Nat)):List Nat:=(dR W ws).map ix
def fM (ws:List (Nat×Nat)):List (Str×Str):=ws.map fun p=>(nm p.1,eE p.2)
def aF (W:Wd) (ts:List Nat) (t:Nat):Int:=gV (dF W ts) (nm t)
def ug (W:Wd) (ts:List Nat) (ws:List (Nat×Nat)) (n:Str):Bs:=⟨n,0,cI (dF W ts),ts.map fun t=>(aF W ts t+0,900+(t:Int)),ip ws⟩
section
variable {W:Wd} (hW:dj W) (hl:W.length≤3)
include hW hl
theorem n7 {ws:List (Nat×Nat)} (hws:∀p∈ws,PV W p):(dR W ws).Nodup∧(∀x∈dR W ws,x∈(aV W).names)∧jg (aV W) (dR W ws)∧∀p∈ws,nm p.1∈dR W ws:=by
 delta W hW hl ws hws at ⊢;have O:=lF hW hl
 have hxs:∀x∈ws.map fun p=>nm p.1,x∈(aV W).names:=fun x hx=>by
  obtain⟨p,hp,rfl⟩:=List.mem_map.mp hx;exact gP (PV.rk hl (hws p hp)).2
 injection (kH O (ws.map fun p=>nm p.1) hxs)with h1 h2
 obtain⟨h3,h4,-⟩:=kU O (k:=4) (fun x o U=>mq O ((aV W).rank x+1) x o (by omega)) (ws.map fun p=>nm p.1) [] (fun x hx=>by
  refine⟨?_,hxs x hx⟩;show ix x<4
  unfold ix;split
  ·omega
  ·split<;>omega) (by simp) (by simp)
 exact⟨h3,h4,h1,fun p hp=>h2 _ (List.mem_map.mpr ⟨p,hp,rfl⟩)⟩
theorem BD {x:Str} (h:x∈(aV W).names):nm (ix x)=x∧ix x<W.length:=by
 obtain⟨t,ht,rfl⟩:=pU h;erw[uU (by omega)];exact⟨rfl,ht⟩
theorem kG {ws:List (Nat×Nat)} (hws:∀p∈ws,PV W p):dR W ws=(aP W ws).map nm:=by
 unfold aP;erw[List.map_map];have h:(dR W ws).map (nm∘ix)=(dR W ws).map id:=List.map_congr_left fun x hx=>(BD hW hl ((n7 hW hl hws).2.1 x hx)).1
 erw[h,List.map_id]
theorem uk {ws:List (Nat×Nat)} (hws:∀p∈ws,PV W p):∀t∈aP W ws,t<W.length:=fun t ht=>by
 obtain⟨x,hx,rfl⟩:=List.mem_map.mp ht;exact(BD hW hl ((n7 hW hl hws).2.1 x hx)).2
theorem tE {ws:List (Nat×Nat)} (hws:∀p∈ws,PV W p) {t:Nat} (ht:t<3):t∈aP W ws↔nm t∈dR W ws:=by
 erw[kG hW hl hws];constructor
 ·exact fun h=>List.mem_map.mpr ⟨t,h,rfl⟩
 ·intro h;obtain⟨t',h1,e⟩:=List.mem_map.mp h;have:=uk hW hl hws t' h1
  erw[←i9 (by omega) ht e];exact h1
theorem pE {ws:List (Nat×Nat)} (hws:∀p∈ws,PV W p):tb W (aP W ws)∧∀p∈ws,p.1∈aP W ws:=by
 delta W hW hl ws hws at ⊢;obtain⟨h1,h2,h3,h4⟩:=n7 hW hl hws;have hnt:=kG hW hl hws
 have hlt:=uk hW hl hws
 have hnd:(aP W ws).Nodup:=by
  rw[hnt]at h1;exact(List.pairwise_map.mp h1).imp fun h e=>h (by erw[e])
 have himp:∀t∈aP W ws,∀m,W[t]?=some m→∀i∈m.imps,i∈aP W ws:=fun t ht m hm i hi=>by
  have htl:=hlt t ht
  have hit:=(hW t m hm).imps i hi
  have hii:nm i∈(aV W).imp (nm t):=by
   unfold bz.imp;erw[cA hl hm];exact List.mem_map.mpr ⟨(nm i,50+(i:Int)),List.mem_map.mpr ⟨i,hi,rfl⟩,rfl⟩
  exact(tE hW hl hws (by exact yV hit htl hl)).mpr (h3 (nm t) ((tE hW hl hws (by omega)).mp ht) _ hii)
 refine⟨⟨hnd,fun t ht=>?_,fun p hp hv d hd=>?_,?_,himp⟩,fun p hp=>?_⟩
 ·have htl:=hlt t ht
  have hm:W[t]?=some W[t]:=List.getElem?_eq_getElem htl
  erw[yg hm];exact(hW t _ hm).pos
 ·obtain⟨h5,h6,h7,h8⟩:=dB hW hv hd;by_cases hk:d.k=.away
  ·obtain⟨m,hm,he⟩:=hv;have hds:m.procs[p.2]?=some m.procs[p.2]:=List.getElem?_eq_getElem he
   have hdd:d∈m.procs[p.2]:=by unfold aq at hd;rw[hm]at hd;dsimp only at hd;rw[hds]at hd;exact hd
   have hdo:=(hW _ m hm).deeds p.2 _ hds d hdd
   unfold ef at hdo;rw[hk]at hdo;exact himp p.1 hp m hm d.m hdo.1
  ·erw[h7 hk];exact hp
 ·have:=bk (n:=W.length) hnd hlt
  omega
 ·have:=(PV.rk hl (hws p hp)).2
  exact(tE hW hl hws (by omega)).mpr (h4 p hp)
theorem Kx {ws:List (Nat×Nat)} (hws:∀p∈ws,PV W p):(aV W).ms ((fM ws).map (fun U=>U.1))=dF W (aP W ws):=by
 have e:(fM ws).map (fun U=>U.1)=ws.map fun p=>nm p.1:=by unfold fM;erw[List.map_map];rfl
 have hn:=kG hW hl hws
 unfold bz.ms dF;erw[e];show(dR W ws).map _=_
 erw[hn,List.map_map];rfl
theorem q9 {ts:List Nat} (T:tb W ts) (hts:∀t∈ts,t<W.length):∀(suf pre:List Nat),ts=pre++suf→∀J:JO,J.ar.length=au (dD W (aF W ts) pre)→
 ((dF W suf).foldl (dc (aV W) (dF W ts)) J)={ J with ar:=J.ar++d7 (az (B0 W (aF W ts) ts)) (dD W (aF W ts) suf) J.ar.length,words:=J.words++suf.map fun t=>(aF W ts t+0,900+(t:Int)) }
 | [],pre,_,J,_=>by simp[dF,dD,lu,bB]
 | t::r,pre,e,J,hJ=>by
  have ht:t∈ts:=by erw[e];simp
  have htl:=hts t ht
  have hm:W[t]?=some W[t]:=List.getElem?_eq_getElem htl
  obtain⟨m,hm⟩:=tT hm
  have hcode:c9 (dF W ts) (nm t)=au (dD W (aF W ts) pre):=by
   have h1:=T.nd
   rw[e]at h1;have h2:=l7 hW hl (dat:=aF W ts) (pre:=pre) (suf:=r) (t:=t) (fun t' ht'=>hts t' (by erw[e];exact ht')) h1
   rw[←e]at h2;exact h2
  have hpo:∀e',e'<m.procs.length→az (B0 W (aF W ts) ts) (some (t,e'))=J.ar.length+ae m.procs e':=fun e' he'=>by
   unfold B0;erw[gO hW hl hts ht hm he',hcode,hJ]
  have hblk:=qa hW hl (start:=J.ar.length) (dat:=aF W ts t) (pl:=w5 (aV W) (dF W ts) (fE t m)) (pos:=az (B0 W (aF W ts) ts)) hm hpo (fun d hk hd hp=>by
   obtain⟨m',hm',hw⟩:=hp;have hdt:d.m<W.length:=by rw[List.getElem?_eq_some_iff]at hm';exact hm'.1
   have hdts:d.m∈ts:=T.imp t ht m hm d.m hd
   change W[d.m]?=some m' at hm';change d.w<m'.procs.length at hw;unfold w5;erw[Nat.add_sub_cancel,Nat.add_sub_cancel]
   have hix:(fE t m).imps[m.imps.idxOf d.m]?=some (nm d.m,50+(d.m:Int)):=by
    show(m.imps.map fun i=>(nm i,50+(i:Int)))[_]?=_
    erw[List.getElem?_map,List.getElem?_eq_getElem (List.idxOf_lt_length_iff.mpr hd),List.getElem_idxOf];rfl
   erw[hix];dsimp only;erw[cA hl hm']
   have hen:(fE d.m m').ents[d.w]?=some (ae m'.procs d.w):=by
    show((List.range m'.procs.length).map (ae m'.procs))[_]?=_
    erw[List.getElem?_map,List.getElem?_range hw];rfl
   erw[hen];unfold B0
   exact gO hW hl hts hdts hm' hw) (aF W ts) rfl m.procs [] rfl
  have hR:(aV W).R (nm t)=fE t m:=cA hl hm
  have hcons:dD W (aF W ts) (t::r)=jI W (aF W ts) t++dD W (aF W ts) r:=by unfold dD;erw[List.flatMap_cons]
  have hmodB:jI W (aF W ts) t=(List.range' ([]:List (List bg)).length m.procs.length).map fun e=>ag W (aF W ts) (t,e):=by
   erw[qH hm,List.range_eq_range'];rfl
  have htot:au (dD W (aF W ts) (pre++[t]))=au (dD W (aF W ts) pre)+au (jI W (aF W ts) t):=by
   unfold dD;erw[List.flatMap_append,fC];simp
  have hlen:(dc (aV W) (dF W ts) J (nm t,(aV W).R (nm t))).ar.length=J.ar.length+au (jI W (aF W ts) t):=by
   unfold dc;dsimp only;erw[List.length_append,mu,hR,mW,jV hm]
  have ih:=q9 T hts r (pre++[t]) (by erw[e];simp) (dc (aV W) (dF W ts) J (nm t,(aV W).R (nm t))) (by erw[hlen,htot,hJ])
  erw[show dF W (t::r)=(nm t,(aV W).R (nm t))::dF W r from rfl,List.foldl_cons,ih,hlen,hcons,fH];have hst:ae m.procs ([]:List (List bg)).length=0:=by simp[ae]
  rw[hst,Nat.add_zero]at hblk;unfold dc;dsimp only;erw[hR];show JO.mk _ _ _ ((J.words++[(aF W ts t+0,qn (fE t m))])++_) ((J.ar++oO J.ar.length (aF W ts t) (w5 (aV W) (dF W ts) (fE t m)) (eK t (ae m.procs) m.imps m.procs ([]:List (List bg)).length) 0)++_) _ _=_
  erw[hblk,←hmodB];congr 1
  ·simp[qn,fE]
  ·erw[List.append_assoc];rfl
theorem sL {t e:Nat} {m:Mod} (hm:W[t]?=some m) (he:e<m.procs.length):aB ((fE t m).cmds.map cC) (eE e)=some (.int (ae m.procs e:Nat)):=by
 have hf:=(hW t m hm).few
 refine cS ?_ (List.mem_map.mpr ⟨(eE e,ae m.procs e),List.mem_map.mpr ⟨e,List.mem_range.mpr he,rfl⟩,rfl⟩);show((((List.range m.procs.length).map fun e=>(eE e,ae m.procs e)).map cC).map (fun U=>U.1)).Nodup
 erw[List.map_map,List.map_map];refine List.pairwise_map.mpr ?_;refine List.Pairwise.imp_of_mem ?_ (List.pairwise_lt_range);intro a b ha hb hab e1;rw[List.mem_range]at ha hb;exact sj hab (by omega) e1
theorem vj {ts:List Nat} (hts:∀t∈ts,t<W.length):∀(ws:List (Nat×Nat)) (cs:List (Str×Id)),(∀p∈ws,PV W p∧p.1∈ts)→
 (fM ws).foldl (ee (aV W) (dF W ts)) (cs.map fun c=>(c.1,az (B0 W (aF W ts) ts) c.2))=(ws.foldl (fun cs p=>setP cs (bM p) (some p)) cs).map fun c=>(c.1,az (B0 W (aF W ts) ts) c.2)
 | [],_,_=>rfl
 | p::r,cs,h=>by
  obtain⟨⟨m,hm,he⟩,hp⟩:=h p (.head _);have hpos:az (B0 W (aF W ts) ts) (some p)=c9 (dF W ts) (nm p.1)+ae m.procs p.2:=gO hW hl hts hp hm he
  have hstep:ee (aV W) (dF W ts) (cs.map fun c=>(c.1,az (B0 W (aF W ts) ts) c.2)) (nm p.1,eE p.2)=(setP cs (bM p) (some p)).map fun c=>(c.1,az (B0 W (aF W ts) ts) c.2):=by
   erw[rS,hpos];unfold ee vk;dsimp only;erw[cA hl hm,sL hW hl hm he];rfl
  show(fM r).foldl _ (ee _ _ _ (nm p.1,eE p.2))=_
  erw[hstep,vj hts r _ (fun q hq=>h q (.tail _ hq)),List.foldl_cons]
theorem zx {ws:List (Nat×Nat)} (hws:∀p∈ws,PV W p) (n:Str):sy (aV W) (dF W (aP W ws)) (fM ws) n=eu (ug W (aP W ws) ws n) (B0 W (aF W (aP W ws)) (aP W ws)):=by
 delta W hW hl ws hws n at ⊢;injection (pE hW hl hws)with T hin;have hts:=uk hW hl hws
 generalize aP W ws=ts at T hin hts;have hj:=q9 hW hl T hts ts [] rfl (d3 n (dF W ts)) (by simp[d3,dD,au])
 have hc:=vj hW hl hts ws [] (fun p hp=>⟨hws p hp,hin p hp⟩)
 unfold sy kR;erw[hj]
 have hf:(dF W ts).map (fun p=>c9 (dF W ts) p.1+p.2.body)=ts.map fun t=>c9 (dF W ts) (nm t)+0:=by
  unfold dF;erw[List.map_map];refine List.map_congr_left fun t ht=>?_
  have htl:=hts t ht
  have hm:W[t]?=some W[t]:=List.getElem?_eq_getElem htl
  show c9 _ (nm t)+((aV W).R (nm t)).body=_
  erw[cA hl hm];rfl
 erw[hf];unfold JO.withBody;dsimp only
 rw[qm (pos:=az (B0 W (aF W ts) ts)) ts _ (fun t ht=>by
  have htl:=hts t ht
  have hm:W[t]?=some W[t]:=List.getElem?_eq_getElem htl
  have h1:=gO hW hl (dat:=aF W ts) (rest:=[af ts]) hts ht hm (hW t _ hm).pos
  show _=az (dD W (aF W ts) ts++[af ts]) (some (t,0))
  erw[h1];simp[ae])]
 have hpn:az (B0 W (aF W ts) ts) none=au (dD W (aF W ts) ts):=by
  unfold B0;erw[gN]
  ·simp[kC,bv,af]
  ·intro h;obtain⟨b,hb,e⟩:=List.mem_map.mp h;obtain⟨p,_,_,rfl⟩:=iW.mp hb;cases e
 have har:d7 (az (B0 W (aF W ts) ts)) (B0 W (aF W ts) ts) 0=d7 (az (B0 W (aF W ts) ts)) (dD W (aF W ts) ts) 0++fR (az (B0 W (aF W ts) ts)) (fq ts) (au (dD W (aF W ts) ts)):=by
  conv=>lhs;arg 2;unfold B0
  erw[fH];simp[lu,bB,af,au]
 unfold eu ug;dsimp only;erw[har,hpn];have hl0:=gK (az (B0 W (aF W ts) ts)) (dD W (aF W ts) ts) 0
 have hs0:(d3 n (dF W ts)).ar=[]:=rfl
 rw[hs0]at *;simp only[List.nil_append,List.length_nil]at *;erw[hl0];unfold d3;dsimp only;have hcm:(fM ws).foldl (ee (aV W) (dF W ts)) []=(ip ws).map fun c=>(c.1,az (B0 W (aF W ts) ts) c.2):=hc
 erw[hcm];congr 1;unfold fq;erw[fg,fg,List.length_append,List.length_append,hl0];simp only[f6,lb,List.length_cons,List.length_nil,gJ,be,cM,List.append_assoc,List.length_map];simp
end
def dK (l:List Int) (i:Nat):Int:=(l[i]?).getD 0
theorem an {l:List Int} {i j:Nat} {v:Int} (hl:l.length=16) (hi:i<16):dK (l.set i v) j=if i=j then v else dK l j:=by
 unfold dK;erw[List.getElem?_set];by_cases h:i=j
 ·subst h;erw[if_pos rfl,if_pos rfl,if_pos (by exact DF hi hl)];rfl
 ·erw[if_neg h,if_neg h]
theorem cV {rows:List aN} {ca:Int} {s s':Em} {r:aN} {i:Nat} (hh:s.here=ca+(i:Nat)) (hr:rows[i]?=some r) (hok:vt r) (e:s.step r=s'):jf rows ca s s' 1:=by
 subst e;refine .cons (by exact FP hh) ?_ hok .nil;erw[show(s.here-ca).toNat=i by exact FO hh];exact hr
def vp (r:Nat):Nat:=([0,8,16,41,41,49,57,123,123,131,139,287][r]?).getD 287
theorem ox {a b:Nat} (h:a≤b) (hb:b≤11):vp a≤vp b:=by
 have:∀a b:Fin 12,a≤b→vp a.val≤vp b.val:=by decide
 exact this ⟨a,by exact FN h hb⟩ ⟨b,by exact yU hb⟩ h
theorem yj {r n:Nat} (hr:r≤11) (hr0:1≤r) (hr4:r%4≠0) (hn:n≤if r%4=3 then 2 else 1):7+n*(1+vp (r-1))≤vp r:=by
 have h1:∀r:Fin 12,1≤r.val→r.val%4≠0→7+(if r.val%4=3 then 2 else 1)*(1+vp (r.val-1))≤vp r.val:=by decide
 have h2:=h1 ⟨r,by exact yU hr⟩ hr0 hr4
 dsimp only at h2;have h3:n*(1+vp (r-1))≤(if r%4=3 then 2 else 1)*(1+vp (r-1)):=Nat.mul_le_mul_right _ hn
 exact DN h2 h3 hr
structure Sx (ts:List Nat) (dat:Nat→Int) (da:Int) (s:Em) (sp:Int):Prop where
 len:s.regs.length=16
 r14:dK s.regs 14=sp
 r13:dK s.regs 13=0
 dat:∀t∈ts,eS s.mem (da+dat t)=some (900+(t:Int))
def Fx (s s':Em) (sp:Int):Prop:=dK s'.regs 11=dK s.regs 11∧∀a,sp≤a∨a<90000→eS s'.mem a=eS s.mem a
section
variable {W:Wd} (hW:dj W) (hl:W.length≤3) {ts:List Nat} {dat:Nat→Int} {X:Bs} {B:List cK} (O:pz X B) (hB:∀b∈B,(∃p,p.1∈ts∧PV W p∧b=ag W dat p)∨b=af ts)
 {ca da:Int} (hdat:∀t∈ts,da+dat t<90000)
include O
theorem xK {b:cK} (hb:b∈B) {o:Nat} {s:bV} (hs:b.rows[o]?=some s):(dW (eu X B) ca da)[az B b.id+o]?=some (wk ca da (cM (az B) (az B b.id+o) s)):=by
 unfold dW;erw[List.getElem?_map,jw O hb hs];rfl
include hW hl hB hdat
theorem rU:∀(k:Nat) (p:Nat×Nat),rk p<k→PV W p→p.1∈ts→(some p:Id)∈B.map (fun U=>U.id)→∀(s:Em) (sp ret:Int),s.here=ca+(az B (some p):Nat)→Sx ts dat da s sp→dK s.regs 15=ret→90000+8*(rk p+1:Nat)≤sp→
 ∃s' n,jf (dW (eu X B) ca da) ca s s' n∧n≤vp (rk p)∧s'.here=ret∧Sx ts dat da s' sp∧Fx s s' sp∧s'.heard=s.heard++f8 W p:=by
 intro k;induction k with
 | zero=>intros;omega
 | succ k ih=>
  intro p hk hp hts hin s sp ret hh hS h15 hsp;obtain⟨b,hb,hid⟩:=ga hin;delta W ts dat X B ca da k p s sp ret b at hW hl O hB hdat ih hk hp hts hin hh hS h15 hsp hb hid
  have hbe:b=ag W dat p:=by
   rcases hB b hb with⟨p',_,_,rfl⟩|rfl
   ·have e:(some p':Id)=some p:=hid
    cases e;rfl
   ·cases hid
  subst hbe;have hget:∀{o:Nat} {sr:bV},(ag W dat p).rows[o]?=some sr→(dW (eu X B) ca da)[az B (some p)+o]?=some (wk ca da (cM (az B) (az B (some p)+o) sr)):=fun h=>xK O hb h
  have hrkp:=(PV.rk hl hp).1
  generalize hP:az B (some p)=P at hh hget;generalize hrows:dW (eu X B) ca da=rows at hget ih ⊢;have hrow:∀o:Nat,(ag W dat p).rows[o]?=(dE (dat p.1) p.1 p.2++(aq W p).map (eO p.2)++eL)[o]?:=fun o=>rfl
  have g0:=hget (o:=0) (sr:=.fix (.reg .subi 14 14 8) false) rfl
  have g1:=hget (o:=1) (sr:=.fix (.reg .str 15 14 0) false) rfl
  have g2:=hget (o:=2) (sr:=.fix (.reg .movi 0 0 (100*(p.1:Nat)+(p.2:Nat))) false) rfl
  have g3:=hget (o:=3) (sr:=.fix (.reg .ldr 1 13 (dat p.1)) true) rfl
  have hlen:=hS.len
  have e1:s.step (.reg .subi 14 14 8)=⟨ca+(P:Nat)+1,s.regs.set 14 (sp-8),s.mem,s.heard⟩:=by
   show Em.mk (s.here+1) (s.regs.set 14 (dK s.regs 14-8)) s.mem s.heard=_
   erw[hS.r14,hh]
  have e2:Em.step ⟨ca+(P:Nat)+1,s.regs.set 14 (sp-8),s.mem,s.heard⟩ (.reg .str 15 14 0)=⟨ca+(P:Nat)+2,s.regs.set 14 (sp-8),bE s.mem (sp-8) ret,s.heard⟩:=by
   show Em.mk (ca+(P:Nat)+1+1) _ (bE s.mem (dK (s.regs.set 14 (sp-8)) 14+0) (dK (s.regs.set 14 (sp-8)) 15)) _=_
   erw[an hlen (by omega),an hlen (by omega),if_pos rfl,if_neg (by omega),h15,Int.add_zero];congr 1;exact AJ
  have e3:Em.step ⟨ca+(P:Nat)+2,s.regs.set 14 (sp-8),bE s.mem (sp-8) ret,s.heard⟩ (.reg .movi 0 0 (100*(p.1:Nat)+(p.2:Nat))) =
   ⟨ca+(P:Nat)+3,(s.regs.set 14 (sp-8)).set 0 (100*(p.1:Nat)+(p.2:Nat)),bE s.mem (sp-8) ret,s.heard++[100*(p.1:Int)+(p.2:Nat)]⟩:=by
   show Em.mk (ca+(P:Nat)+2+1) _ _ _=_
   congr 1;exact AI
  have hda:=hdat p.1 hts
  have e4:Em.step ⟨ca+(P:Nat)+3,(s.regs.set 14 (sp-8)).set 0 (100*(p.1:Nat)+(p.2:Nat)),bE s.mem (sp-8) ret,s.heard++[100*(p.1:Int)+(p.2:Nat)]⟩ (.reg .ldr 1 13 (dat p.1+da)) =
   ⟨ca+(P:Nat)+4,((s.regs.set 14 (sp-8)).set 0 (100*(p.1:Nat)+(p.2:Nat))).set 1 (900+(p.1:Int)),bE s.mem (sp-8) ret,s.heard++[100*(p.1:Int)+(p.2:Nat)]++[900+(p.1:Int)]⟩:=by
   show Em.mk (ca+(P:Nat)+3+1) (List.set _ 1 ((eS (bE s.mem (sp-8) ret) (dK ((s.regs.set 14 (sp-8)).set 0 (100*(p.1:Nat)+(p.2:Nat))) 13+(dat p.1+da))).getD 0)) _ (if(1:Int)=1 then _++[(eS (bE s.mem (sp-8) ret) (dK ((s.regs.set 14 (sp-8)).set 0 (100*(p.1:Nat)+(p.2:Nat))) 13+(dat p.1+da))).getD 0]else _)=_
   erw[an (by erw[List.length_set];exact hlen) (by omega),if_neg (by omega),an hlen (by omega),if_neg (by omega),hS.r13,Int.zero_add,dd,if_neg (by exact FL hsp hda),show dat p.1+da=da+dat p.1 by exact FK,hS.dat p.1 hts,if_pos rfl];congr 1;exact AH
  have run4:jf rows ca s ⟨ca+(P:Nat)+4,((s.regs.set 14 (sp-8)).set 0 (100*(p.1:Nat)+(p.2:Nat))).set 1 (900+(p.1:Int)),bE s.mem (sp-8) ret,s.heard++[100*(p.1:Int)+(p.2:Nat)]++[900+(p.1:Int)]⟩ 4:=by
   have ok:∀op a b c,0≤a→a<16→0≤b→b<16→op≠Op.mov→vt (.reg op a b c):=fun op a b c h1 h2 h3 h4 h5=>⟨h1,h2,h3,h4,fun h=>absurd h h5⟩
   have r1:=cV (rows:=rows) (ca:=ca) (by erw[hh];simp) g0 (ok _ _ _ _ (by omega) (by omega) (by omega) (by omega) (by decide)) e1
   have r2:=cV (rows:=rows) (ca:=ca) (s:=⟨ca+(P:Nat)+1,s.regs.set 14 (sp-8),s.mem,s.heard⟩) (by dsimp only;exact AG) g1 (ok _ _ _ _ (by omega) (by omega) (by omega) (by omega) (by decide)) e2
   have r3:=cV (rows:=rows) (ca:=ca) (s:=⟨ca+(P:Nat)+2,s.regs.set 14 (sp-8),bE s.mem (sp-8) ret,s.heard⟩) (by dsimp only;exact AF) g2 (ok _ _ _ _ (by omega) (by omega) (by omega) (by omega) (by decide)) e3
   have r4:=cV (rows:=rows) (ca:=ca) (s:=⟨ca+(P:Nat)+3,(s.regs.set 14 (sp-8)).set 0 (100*(p.1:Nat)+(p.2:Nat)),bE s.mem (sp-8) ret,s.heard++[100*(p.1:Int)+(p.2:Nat)]⟩) (by dsimp only;exact AE) g3 (ok _ _ _ _ (by omega) (by omega) (by omega) (by omega) (by decide)) e4
   exact((r1.trans r2).trans r3).trans r4
  have deeds:∀(suf pre:List bg),aq W p=pre++suf→∀s:Em,s.here=ca+(P:Nat)+4+(pre.length:Nat)→Sx ts dat da s (sp-8)→
   ∃s' n,jf rows ca s s' n∧n≤suf.length*(1+vp (rk p-1))∧s'.here=ca+(P:Nat)+4+((aq W p).length:Nat)∧Sx ts dat da s' (sp-8)∧Fx s s' (sp-8)∧s'.heard=s.heard++(suf.filter bg.calls).flatMap fun d=>f8 W d.to:=by
   intro suf;induction suf with
   | nil=>
    intro pre e s h1 h2;exact⟨s,0,.nil,by omega,by erw[h1,e,List.append_nil],h2,⟨rfl,fun U U=>rfl⟩,by simp⟩
   | cons d suf ihd=>
    intro pre e s h1 h2;have hd:d∈aq W p:=by erw[e];simp
    obtain⟨hdv,hdr,-⟩:=dB hW hp hd
    have hget2:(ag W dat p).rows[4+pre.length]?=some (eO p.2 d):=by
     erw[hrow,e,List.append_assoc,List.getElem?_append_right (by simp[dE])];show((List.map (eO p.2) (pre++d::suf))++eL)[4+pre.length-4]?=_
     erw[show 4+pre.length-4=pre.length by exact AD,List.map_append,List.append_assoc,List.getElem?_append_right (by simp)];simp
    have hg:=hget hget2
    have htg:(some d.to:Id)∈B.map (fun U=>U.id):=O.tgt _ hb _ (List.mem_of_getElem? hget2) _ mR
    have hdts:d.to.1∈ts:=by
     obtain⟨b',hb',e'⟩:=ga htg;rcases hB b' hb' with⟨p',h3,_,rfl⟩|rfl
     ·have e2:(some p':Id)=some d.to:=e'
      cases e2;exact h3
     ·cases e'
    by_cases hc:d.k=.held
    ·have hsr:eO p.2 d=.hld (some d.to):=by unfold eO;erw[hc]
     rw[hsr]at hg
     have es:s.step (.reg .movi 2 0 ((az B (some d.to):Nat)+ca))=⟨ca+(P:Nat)+4+((pre++[d]).length:Nat),s.regs.set 2 ((az B (some d.to):Nat)+ca),s.mem,s.heard⟩:=by
      show Em.mk (s.here+1) _ _ _=_
      erw[h1,List.length_append];congr 1;simp;exact Cc
     have hr1:=cV (rows:=rows) (ca:=ca) (s:=s) (i:=P+(4+pre.length)) (by erw[h1];exact Cb) hg ⟨by omega,by omega,by omega,by omega,fun h=>by cases h⟩ es
     obtain⟨s',n,r,hn,hh',hS',hF',hhd⟩:=ihd (pre++[d]) (by erw[e];simp) ⟨ca+(P:Nat)+4+((pre++[d]).length:Nat),s.regs.set 2 ((az B (some d.to):Nat)+ca),s.mem,s.heard⟩ rfl
      ⟨by erw[List.length_set];exact h2.len,by erw[an h2.len (by omega),if_neg (by omega)];exact h2.r14,by erw[an h2.len (by omega),if_neg (by omega)];exact h2.r13,h2.dat⟩
     refine⟨s',1+n,hr1.trans r,?_,hh',hS',⟨?_,hF'.2⟩,?_⟩
     ·erw[List.length_cons,Nat.succ_mul];exact FJ hn
     ·erw[hF'.1];exact(an h2.len (by omega)).trans (if_neg (by omega))
     ·erw[hhd];have:d.calls=false:=by unfold bg.calls;simp[hc]
      simp[this]
    ·have hsr:eO p.2 d=.bl (some d.to) 0 [0-8-4*(p.2:Nat)]:=by
      unfold eO;cases hk2:d.k with
      | held=>exact absurd hk2 hc
      | own=>rfl
      | away=>rfl
     rw[hsr]at hg
     have es:s.step (.bl ((az B (some d.to):Nat)-((P+(4+pre.length):Nat):Int)-1) 0)=⟨ca+(az B (some d.to):Nat),s.regs.set 15 (ca+(P:Nat)+4+((pre++[d]).length:Nat)),s.mem,s.heard⟩:=by
      show Em.mk (s.here+1+_) (s.regs.set 15 (s.here+1)) _ _=_
      erw[h1,List.length_append];congr 1
      ·exact AC
      ·congr 1;simp;exact Cc
     have hr1:=cV (rows:=rows) (ca:=ca) (s:=s) (i:=P+(4+pre.length)) (by erw[h1];exact Cb) hg trivial es
     have hS1:Sx ts dat da ⟨ca+(az B (some d.to):Nat),s.regs.set 15 (ca+(P:Nat)+4+((pre++[d]).length:Nat)),s.mem,s.heard⟩ (sp-8):=
      ⟨by erw[List.length_set];exact h2.len,by erw[an h2.len (by omega),if_neg (by omega)];exact h2.r14,by erw[an h2.len (by omega),if_neg (by omega)];exact h2.r13,h2.dat⟩
     obtain⟨s2,n2,r2,hn2,hh2,hS2,hF2,hhd2⟩:=ih d.to (by exact s8 hdr hk) hdv hdts htg _ (sp-8) (ca+(P:Nat)+4+((pre++[d]).length:Nat)) rfl hS1 (by erw[an h2.len (by omega),if_pos rfl]) (by exact FI hsp hdr);obtain⟨s',n,r,hn,hh',hS',hF',hhd⟩:=ihd (pre++[d]) (by erw[e];simp) s2 hh2 hS2;refine⟨s',1+n2+n,(hr1.trans r2).trans r,?_,hh',hS',⟨?_,fun a ha=>?_⟩,?_⟩
     ·have:=ox (a:=rk d.to) (b:=rk p-1) (by exact FH hdr) (by exact FG hrkp hdr)
      erw[List.length_cons,Nat.succ_mul];exact FF hn2 hn this
     ·erw[hF'.1,hF2.1];exact(an h2.len (by omega)).trans (if_neg (by omega))
     ·erw[hF'.2 a ha,hF2.2 a ha]
     ·erw[hhd,hhd2];have:d.calls=true:=by unfold bg.calls;simp[hc]
      simp[this]
  obtain⟨s5,n5,r5,hn5,hh5,hS5,hF5,hhd5⟩:=deeds (aq W p) [] rfl ⟨ca+(P:Nat)+4,((s.regs.set 14 (sp-8)).set 0 (100*(p.1:Nat)+(p.2:Nat))).set 1 (900+(p.1:Int)),bE s.mem (sp-8) ret,s.heard++[100*(p.1:Int)+(p.2:Nat)]++[900+(p.1:Int)]⟩
   (by simp) ⟨by erw[List.length_set,List.length_set,List.length_set];exact hlen,
    by erw[an (by erw[List.length_set,List.length_set];exact hlen) (by omega),if_neg (by omega),an (by erw[List.length_set];exact hlen) (by omega),if_neg (by omega),an hlen (by omega),if_pos rfl],
    by erw[an (by erw[List.length_set,List.length_set];exact hlen) (by omega),if_neg (by omega),an (by erw[List.length_set];exact hlen) (by omega),if_neg (by omega),an hlen (by omega),if_neg (by omega)];exact hS.r13,
    fun t ht=>by have:=hdat t ht;erw[dd,if_neg (by exact FE hsp this)];exact hS.dat t ht⟩
  delta s5 n5 at r5 hn5 hh5 hS5 hF5 hhd5;have hm5:eS s5.mem (sp-8)=some ret:=by erw[hF5.2 _ (.inl (Int.le_refl _)),dd,if_pos rfl]
  have ht:∀o:Nat,(ag W dat p).rows[4+(aq W p).length+o]?=eL[o]?:=fun o=>by
   erw[hrow,List.append_assoc,List.getElem?_append_right (by simp[dE];exact AB),List.getElem?_append_right (by simp[dE];exact AA)];congr 1;simp[dE];exact Az
  have g5:=hget ((ht 0).trans (by rfl:eL[0]?=some (.fix (.reg .ldr 15 14 0) false)))
  have g6:=hget ((ht 1).trans (by rfl:eL[1]?=some (.fix (.reg .addi 14 14 8) false)))
  have g7:=hget ((ht 2).trans (by rfl:eL[2]?=some (.fix (.br 15 0) false)))
  have e5:s5.step (.reg .ldr 15 14 0)=⟨ca+(P:Nat)+5+((aq W p).length:Nat),s5.regs.set 15 ret,s5.mem,s5.heard⟩:=by
   show Em.mk (s5.here+1) (s5.regs.set 15 ((eS s5.mem (dK s5.regs 14+0)).getD 0)) _ (if(15:Int)=1 then _ else s5.heard)=_
   erw[hS5.r14,Int.add_zero,hm5,if_neg (by omega),hh5];congr 1;exact Ay
  have e6:Em.step ⟨ca+(P:Nat)+5+((aq W p).length:Nat),s5.regs.set 15 ret,s5.mem,s5.heard⟩ (.reg .addi 14 14 8)=⟨ca+(P:Nat)+6+((aq W p).length:Nat),(s5.regs.set 15 ret).set 14 sp,s5.mem,s5.heard⟩:=by
   show Em.mk (ca+(P:Nat)+5+((aq W p).length:Nat)+1) (List.set _ 14 (dK (s5.regs.set 15 ret) 14+8)) _ _=_
   erw[an hS5.len (by omega),if_neg (by omega),hS5.r14,show sp-8+8=sp by exact FD];congr 1;exact Ax
  have e7:Em.step ⟨ca+(P:Nat)+6+((aq W p).length:Nat),(s5.regs.set 15 ret).set 14 sp,s5.mem,s5.heard⟩ (.br 15 0)=⟨ret,(s5.regs.set 15 ret).set 14 sp,s5.mem,s5.heard⟩:=by
   show Em.mk (dK ((s5.regs.set 15 ret).set 14 sp) 15) _ _ _=_
   erw[an (by erw[List.length_set];exact hS5.len) (by omega),if_neg (by omega),an hS5.len (by omega),if_pos rfl]
  have q5:=cV (rows:=rows) (ca:=ca) (s:=s5) (i:=P+(4+(aq W p).length+0)) (by erw[hh5];exact Aw) g5 ⟨by omega,by omega,by omega,by omega,fun h=>by cases h⟩ e5
  have q6:=cV (rows:=rows) (ca:=ca) (s:=⟨ca+(P:Nat)+5+((aq W p).length:Nat),s5.regs.set 15 ret,s5.mem,s5.heard⟩) (i:=P+(4+(aq W p).length+1)) (by dsimp only;exact Av) g6 ⟨by omega,by omega,by omega,by omega,fun h=>by cases h⟩ e6
  have q7:=cV (rows:=rows) (ca:=ca) (s:=⟨ca+(P:Nat)+6+((aq W p).length:Nat),(s5.regs.set 15 ret).set 14 sp,s5.mem,s5.heard⟩) (i:=P+(4+(aq W p).length+2)) (by dsimp only;exact Au) g7 ⟨by omega,by omega⟩ e7
  have hl15:(s5.regs.set 15 ret).length=16:=by erw[List.length_set];exact hS5.len
  refine⟨_,4+n5+1+1+1,(((run4.trans r5).trans q5).trans q6).trans q7,?_,rfl,⟨?_,?_,?_,hS5.dat⟩,⟨?_,fun a ha=>?_⟩,?_⟩
  ·have h1:=gU hW p
   obtain⟨m,hm,he⟩:=hp;have h2:=(hW _ m hm).few
   have h3:rk p%4≠0∧1≤rk p∧(p.2=0→rk p%4=3):=by unfold rk;exact B3 he h2
   have h4:=yj (r:=rk p) (n:=(aq W p).length) hrkp h3.2.1 h3.1 (by
    by_cases h0:p.2=0
    ·rw[if_pos h0]at h1;erw[if_pos (h3.2.2 h0)];exact h1
    ·rw[if_neg h0]at h1;split<;>omega)
   exact FC h4 hn5
  ·erw[List.length_set];exact hl15
  ·erw[an hl15 (by omega),if_pos rfl]
  ·erw[an hl15 (by omega),if_neg (by omega),an hS5.len (by omega),if_neg (by omega)];exact hS5.r13
  ·erw[an hl15 (by omega),if_neg (by omega),an hS5.len (by omega),if_neg (by omega),hF5.1];erw[an (by erw[List.length_set,List.length_set];exact hlen) (by omega),if_neg (by omega),an (by erw[List.length_set];exact hlen) (by omega),if_neg (by omega),an hlen (by omega),if_neg (by omega)]
  ·show eS s5.mem a=_
   erw[hF5.2 a (by exact FB ha),dd,if_neg (by exact FA hsp ha)]
  ·show s5.heard=_
   erw[hhd5,uq hW hp];simp
end
theorem s6 {l:List Int} {i:Nat} {v:Int} (hl:l.length=16) (hi:i<16) (h:dK l i=v):l[i]?=some v:=by
 unfold dK at h;rw[List.getElem?_eq_getElem (by exact DF hi hl)]at h ⊢;erw[←h];rfl
theorem sG (da:Int):∀(l:List (Int×Int)) (m:List (Int×Int)),(l.map (fun U=>U.1)).Nodup→(∀k v,(k,v)∈l→eS (l.foldl (fun m p=>bE m (da+p.1) p.2) m) (da+k)=some v)∧∀k,k∉l.map (fun U=>U.1)→eS (l.foldl (fun m p=>bE m (da+p.1) p.2) m) (da+k)=eS m (da+k)
 | [],m,_=>⟨fun k v h=>(by cases h),fun k U=>rfl⟩
 | (k0,v0)::r,m,h=>by
  rw[List.map_cons,List.nodup_cons]at h;obtain⟨h1,h2⟩:=sG da r (bE m (da+k0) v0) h.2;erw[List.foldl_cons];refine⟨fun k v hk=>?_,fun k hk=>?_⟩
  ·rw[List.mem_cons]at hk;rcases hk with hk|hk
   ·cases hk;erw[h2 k0 h.1,dd,if_pos rfl]
   ·exact h1 k v hk
  ·rw[List.map_cons,List.mem_cons,not_or]at hk;erw[h2 k hk.2,dd,if_neg (fun e=>hk.1 (by omega))]
theorem zz:∀{l:List Nat} {a b:Nat},a∈l→l.idxOf a=l.idxOf b→a=b:=by
 intro l;induction l with
 | nil=>intro a b h;cases h
 | cons x r ih=>
  intro a b h e;rw[List.idxOf_cons,List.idxOf_cons]at e;by_cases h1:x=a
  ·by_cases h2:x=b
   ·erw[←h1,←h2]
   ·simp[h1]at e;have h3:(a==b)=false:=by erw[beq_eq_false_iff_ne];intro q;exact h2 (by erw[h1,q])
    rw[h3]at e;simp at e
  ·have h4:(x==a)=false:=by erw[beq_eq_false_iff_ne];exact h1
   rw[h4]at e;by_cases h2:x=b
   ·have h5:(x==b)=true:=by erw[beq_iff_eq];exact h2
    rw[h5]at e;simp at e
   ·have h5:(x==b)=false:=by erw[beq_eq_false_iff_ne];exact h2
    rw[h5]at e;simp only[cond_false]at e
    have ha:a∈r:=by
     cases h with
     | head=>exact absurd rfl h1
     | tail _ h=>exact h
    exact ih ha (by exact Fz e)
section
variable {W:Wd} (hW:dj W) (hl:W.length≤3)
include hW hl
theorem my:∀{ts:List Nat} {t:Nat},(∀u∈ts,u<W.length)→t∈ts→gV (dF W ts) (nm t)=16*(ts.idxOf t:Nat)
 | [],_,_,h=>by cases h
 | u::r,t,hts,ht=>by
  have hu:=hts u (.head _)
  have htl:=hts t ht
  have hm:W[u]?=some W[u]:=List.getElem?_eq_getElem hu
  show gV ((nm u,(aV W).R (nm u))::dF W r) (nm t)=_
  erw[oj,List.idxOf_cons];by_cases h:u=t
  ·subst h;simp
  ·have hn:nm u≠nm t:=fun e=>h (i9 (by omega) (by omega) e)
   have hb:(u==t)=false:=by erw[beq_eq_false_iff_ne];exact h
   have hr:t∈r:=by
    cases ht with
    | head=>exact absurd rfl h
    | tail _ h=>exact h
   erw[if_neg hn,hb,my (fun v hv=>hts v (.tail _ hv)) hr,cA hl hm]
   have:rn (fE u W[u]).size=16:=by
    unfold rn;exact B7 (Nat.lt_of_lt_of_le hu hl)
   erw[this];simp only[cond_false];exact Fy
theorem wF {ts:List Nat} (T:tb W ts) (hts:∀u∈ts,u<W.length) {ws:List (Nat×Nat)} {n:Str} (da:Int):∀t∈ts,eS ((ug W ts ws n).words.foldl (fun m p=>bE m (da+p.1) p.2) []) (da+aF W ts t)=some (900+(t:Int)):=fun t ht=>by
 have hn:((ug W ts ws n).words.map (fun U=>U.1)).Nodup:=by
  unfold ug;dsimp only;erw[List.map_map];refine List.pairwise_map.mpr (List.Pairwise.imp_of_mem ?_ T.nd);intro a b ha hb hab e;have e':aF W ts a+0=aF W ts b+0:=e
  unfold aF at e';rw[my hW hl hts ha,my hW hl hts hb]at e';exact hab (zz ha (by exact Fw e'))
 refine(sG da _ [] hn).1 _ _ ?_;exact List.mem_map.mpr ⟨t,ht,by simp⟩
theorem CB {ts:List Nat} (T:tb W ts) (hts:∀u∈ts,u<W.length):∀t∈ts,0≤aF W ts t∧aF W ts t≤48:=fun t ht=>by
 unfold aF;erw[my hW hl hts ht];have h1:=List.idxOf_lt_length_iff.mpr ht
 have h2:=T.few
 exact Fv h1 h2
end
theorem vB:∀a b:Fin 3,∀c d:Fin 3,bM (a.val,c.val)=bM (b.val,d.val)→a=b∧c=d:=by decide +kernel
theorem pC {W:Wd} (hW:dj W) (hl:W.length≤3) {p q:Nat×Nat} (hp:PV W p) (hq:PV W q) (h:bM p=bM q):p=q:=by
 have h1:=(PV.rk hl hp).2
 have h2:=(PV.rk hl hq).2
 obtain⟨m,hm,hp2⟩:=hp;obtain⟨m',hm',hq2⟩:=hq;have h3:=(hW _ m hm).few
 have h4:=(hW _ m' hm').few
 obtain⟨a,c⟩:=p;obtain⟨b,d⟩:=q;dsimp only at *;have:=vB ⟨a,by omega⟩ ⟨b,by omega⟩ ⟨c,by omega⟩ ⟨d,by omega⟩ h
 simp at this;erw[this.1,this.2]
inductive PR (W:Wd) (roots:List (Nat×Nat)):Nat×Nat→Prop
 | root {p:Nat×Nat}:p∈roots→PR W roots p
 | deed {p:Nat×Nat} {d:bg}:PR W roots p→d∈aq W p→PR W roots d.to
section
variable {W:Wd} (hW:dj W) (hl:W.length≤3) {ws:List (Nat×Nat)} (hws:∀p∈ws,PV W p) {n:Str}
include hW hl hws
theorem io {c:Str×Id} (h:c∈ip ws):∃p∈ws,c=(bM p,some p):=by
 rcases(hE ws [] (by simp)).2.2.1 c h with h|h
 ·cases h
 ·exact h
theorem yq:pz (ug W (aP W ws) ws n) (B0 W (aF W (aP W ws)) (aP W ws)):=by
 obtain⟨T,hin⟩:=pE hW hl hws;refine KV hW T fun c hc=>?_
 obtain⟨p,hp,rfl⟩:=io hW hl hws hc;exact⟨p,rfl,hin p hp,hws p hp⟩
theorem xH:wD (eu (ug W (aP W ws) ws n) (B0 W (aF W (aP W ws)) (aP W ws)))∨ws.length>50:=by
 delta W hW hl ws hws n at ⊢;by_cases hwl:ws.length≤50
 ·left;injection (pE hW hl hws)with T hin;have h1:=hE ws [] (by simp)
  refine zt (yq hW hl hws) (CH hW T) (vu hW T) ?_ h1.1 ?_ KW
  ·have:=h1.2.1
   show(ip ws).length≤60
   unfold ip;simp at this;omega
  ·show((aP W ws).map _).length≤1000
   erw[List.length_map];have:=T.few
   omega
 ·right;exact Fu hwl
theorem Ck {p:Nat×Nat}:hH (ug W (aP W ws) ws n) (B0 W (aF W (aP W ws)) (aP W ws)) (some p)↔PR W ((aP W ws).map (fun t=>(t,0))++ws) p:=by
 delta W hW hl ws hws n p at ⊢;obtain⟨T,hin⟩:=pE hW hl hws;generalize hts:aP W ws=ts at T hin;constructor
 ·intro h
  have key:∀q:Id,hH (ug W ts ws n) (B0 W (aF W ts) ts) q→∀p,q=some p→PR W (ts.map (fun t=>(t,0))++ws) p:=by
   intro q h;induction h with
   | body=>intro p e;cases e
   | cmd hc=>
    intro p e;obtain⟨p',hp',rfl⟩:=io hW hl hws hc;cases e;exact .root (List.mem_append.mpr (.inr hp'))
   | @step b s q h1 h2 h3 h4 ih=>
    intro p e;subst e;rcases dU.mp h2 with⟨p',h5,h6,rfl⟩|rfl
    ·obtain⟨d,hd,e⟩:=rl h3 h4;cases e;exact .deed (ih p' rfl) hd
    ·obtain⟨t,ht,e⟩:=ou h3 h4;cases e;exact .root (List.mem_append.mpr (.inl (List.mem_map.mpr ⟨t,ht,rfl⟩)))
  exact key _ h p rfl
 ·intro h
  have key:∀p,PR W (ts.map (fun t=>(t,0))++ws) p→hH (ug W ts ws n) (B0 W (aF W ts) ts) (some p)∧p.1∈ts∧PV W p:=by
   intro p h;induction h with
   | @root p h=>
    rw[List.mem_append]at h;rcases h with h|h
    ·obtain⟨t,ht,rfl⟩:=List.mem_map.mp h;refine⟨.step (b:=af ts) (s:=.bl (some (t,0)) 0 []) .body (dU.mpr (.inr rfl)) ?_ rfl,ht,lL.mpr (T.pos t ht)⟩;unfold af fq;simp only[List.mem_append,List.mem_map];exact .inl (.inr ⟨t,ht,rfl⟩)
    ·have hk:=((hE ws [] (by simp)).2.2.2 (bM p)).mpr (.inr ⟨p,h,rfl⟩)
     obtain⟨c,hc,e⟩:=List.mem_map.mp hk;obtain⟨p',hp',rfl⟩:=io hW hl hws hc;have hpp:p'=p:=pC hW hl (hws p' hp') (hws p h) e
     subst hpp;exact⟨hH.cmd (c:=(bM p',some p')) hc,hin p' h,hws p' h⟩
   | @deed p d h hd ih=>
    obtain⟨h1,h2,h3⟩:=ih;refine⟨.step (b:=ag W (aF W ts) p) (s:=eO p.2 d) h1 (dU.mpr (.inl ⟨p,h2,h3,rfl⟩)) ?_ mR,T.cl p h2 h3 d hd,(dB hW h3 hd).1⟩;unfold ag;dsimp only;erw[List.mem_append,List.mem_append];exact .inl (.inr (List.mem_map.mpr ⟨d,hd,rfl⟩))
  exact(key p h).1
end
def cN:aN→Option Int
 | .reg .movi a _ k=>if a=0 then some k else none
 | _=>none
def dz (rs:List aN):List Int:=rs.filterMap cN
def gn (p:Nat×Nat):Int:=100*(p.1:Int)+(p.2:Nat)
def jN:bV→Option Int
 | .fix r _=>cN r
 | _=>none
theorem Ky {pos:Id→Nat} {i:Nat} {s:bV}:cN (cM pos i s).ins=jN s:=by
 cases s with
 | fix r f=>rfl
 | bl p k mp=>rfl
 | hld p=>rfl
theorem kf (pos:Id→Nat):∀(l:List bV) (i:Nat),dz ((fR pos l i).map aT.ins)=l.filterMap jN
 | [],_=>rfl
 | s::r,i=>by
  have ih:=kf pos r (i+1)
  unfold dz at ih ⊢;erw[be,List.map_cons,List.filterMap_cons,List.filterMap_cons,Ky,ih]
theorem lV (pos:Id→Nat):∀(B:List cK) (i:Nat),dz ((d7 pos B i).map aT.ins)=B.flatMap fun b=>b.rows.filterMap jN
 | [],_=>rfl
 | b::r,i=>by
  have ih:=lV pos r (i+b.rows.length)
  have h:=kf pos b.rows i
  unfold dz at ih h ⊢;erw[bB,List.map_append,List.filterMap_append,h,ih,List.flatMap_cons]
theorem we {W:Wd} {dat:Nat→Int} {p:Nat×Nat}:(ag W dat p).rows.filterMap jN=[gn p]:=by
 have hd:∀l:List bg,(l.map (eO p.2)).filterMap jN=[]:=fun l=>by
  induction l with
  | nil=>rfl
  | cons d r ih=>
   erw[List.map_cons,List.filterMap_cons];have:jN (eO p.2 d)=none:=by unfold eO;split<;>rfl
   erw[this];exact ih
 unfold ag;dsimp only;erw[List.filterMap_append,List.filterMap_append,hd];rfl
theorem tH {ts:List Nat}:(af ts).rows.filterMap jN=[]:=by
 have hd:(ts.map (fun t=>bV.bl (some (t,0)) 0 [])).filterMap jN=[]:=by
  induction ts with
  | nil=>rfl
  | cons d r ih=>erw[List.map_cons,List.filterMap_cons];exact ih
 unfold af fq;dsimp only;erw[List.filterMap_append,List.filterMap_append,hd];rfl
theorem sv:∀(l:List aT) (i:Nat),(bi l i).length=((l.map aT.ins).filter aN.isBL).length
 | [],_=>rfl
 | a::r,i=>by
  erw[bC,List.length_append,sv r,List.map_cons,List.filter_cons];cases a.ins.isBL<;>simp;exact AO
theorem xE {l:List aT}:∀{i j:Nat} {a:aT},l[j]?=some a→a.ins.isBL=true→(i+j+1,a.mp)∈bi l i:=by
 induction l with
 | nil=>intro i j a h;simp at h
 | cons b r ih=>
  intro i j a h hb;erw[bC,List.mem_append];cases j with
  | zero=>simp at h;subst h;erw[hb];simp
  | succ j=>
   right;have:=ih (i:=i+1) (j:=j) (by simpa using h) hb
   rwa[show i+1+j+1=i+(j+1)+1 by exact AN]at this
section
variable {W:Wd} (hW:dj W) (hl:W.length≤3) {ws:List (Nat×Nat)} (hws:∀p∈ws,PV W p) {n:Str}
include hW hl hws
theorem wl {J':JO} (h:iw (eu (ug W (aP W ws) ws n) (B0 W (aF W (aP W ws)) (aP W ws))) J'):∃L:List (Nat×Nat),
 J'=eu (ug W (aP W ws) ws n) (L.map (ag W (aF W (aP W ws)))++[af (aP W ws)])∧pz (ug W (aP W ws) ws n) (L.map (ag W (aF W (aP W ws)))++[af (aP W ws)])∧L.Nodup∧
 (∀p∈L,p.1∈aP W ws∧PV W p)∧L.length≤9∧∀p,p∈L↔PR W ((aP W ws).map (fun t=>(t,0))++ws) p:=by
 delta W hW hl ws hws n J' h at ⊢
 have O:=yq hW hl hws (n:=n)
 injection (pE hW hl hws)with T hin
 injection (zW hW hl (dat:=aF W (aP W ws)) T)with hr1 hr2
 injection (qB O hr1 hr2 h)with B' e O' hs hiff
 have hpr:=fun p=>Ck hW hl hws (n:=n) (p:=p)
 have hvalid:∀p,PR W ((aP W ws).map (fun t=>(t,0))++ws) p→p.1∈aP W ws∧PV W p:=by
  intro p h
  induction h with
  | @root p h=>
   rw[List.mem_append]at h
   rcases h with h|h
   ·obtain⟨t,ht,rfl⟩:=List.mem_map.mp h
    exact⟨ht,lL.mpr (T.pos t ht)⟩
   ·exact⟨hin p h,hws p h⟩
  | @deed p d h hd ih=>exact⟨T.cl p ih.1 ih.2 d hd,(dB hW ih.2 hd).1⟩
 unfold B0 at hs
 injection (List.sublist_append_iff.mp hs)with l1 l2 rfl hl1 hl2
 have hbody:af (aP W ws)∈l1++l2:=(hiff _ (dU.mpr (.inr rfl))).mpr .body
 have hnb:∀b∈l1,b.id≠none:=fun b hb e=>by
  obtain⟨p,_,_,rfl⟩:=iW.mp (hl1.subset hb)
  cases e
 have hl2e:l2=[af (aP W ws)]:=by
  rw[List.mem_append]at hbody
  rcases hbody with hb|hb
  ·exact absurd rfl (hnb _ hb)
  ·cases hl2 with
   | cons _ h=>cases h;cases hb
   | cons_cons _ h=>cases h;rfl
 subst hl2e
 have hall:dD W (aF W (aP W ws)) (aP W ws)=((aP W ws).flatMap (gh W)).map (ag W (aF W (aP W ws))):=by
  unfold dD jI
  erw[List.map_flatMap]
 rw[hall]at hl1
 injection (List.sublist_map_iff.mp hl1)with L hL rfl
 have hbinj:∀p q,ag W (aF W (aP W ws)) p=ag W (aF W (aP W ws)) q→p=q:=fun p q e=>by
  have e1:=congrArg cK.id e
  have e2:(some p:Id)=some q:=e1
  cases e2;rfl
 have hLm:∀p,p∈L→p.1∈aP W ws∧PV W p:=fun p hp=>by
  obtain⟨t,ht,hpt⟩:=List.mem_flatMap.mp (hL.subset hp)
  obtain⟨rfl,h⟩:=fL.mp hpt
  exact⟨ht,h⟩
 have hLnd:L.Nodup:=by
  have h1:=O'.nd
  rw[List.map_append,List.nodup_append]at h1
  have h2:=h1.1
  rw[List.map_map]at h2
  exact(List.pairwise_map.mp h2).imp fun h e=>h (by erw[e])
 refine⟨L,e,O',hLnd,hLm,?_,fun p=>?_⟩
 ·have h1:=li hW (dat:=aF W (aP W ws)) (aP W ws)
  have h2:=hl1.length_le
  rw[←hall]at h2
  rw[List.length_map]at h2
  have:=T.few
  exact Fd h2 h1 this
 ·erw[←hpr p]
  constructor
  ·delta hp
   injection (hLm p hp)with h1 h2
   exact(hiff (ag W (aF W (aP W ws)) p) (dU.mpr (.inl ⟨p,h1,h2,rfl⟩))).mp (List.mem_append.mpr (.inl (List.mem_map_of_mem hp)))
  ·delta hp
   injection (hvalid p ((hpr p).mp hp))with h1 h2
   have:=(hiff (ag W (aF W (aP W ws)) p) (dU.mpr (.inl ⟨p,h1,h2,rfl⟩))).mpr hp
   rw[List.mem_append,List.mem_singleton]at this
   rcases this with h|h
   ·injection (List.mem_map.mp h)with q hq e
    erw[←hbinj _ _ e];exact hq
   ·have:=congrArg cK.id h
    cases this
end
section
variable {W:Wd} (hW:dj W) (hl:W.length≤3) {ts:List Nat} {dat:Nat→Int} {X:Bs} {L:List (Nat×Nat)} (O:pz X (L.map (ag W dat)++[af ts])) (hL:∀p∈L,p.1∈ts∧PV W p)
theorem wm:dz (eu X (L.map (ag W dat)++[af ts])).rows=L.map gn:=by
 erw[nL,lV,List.flatMap_append];simp only[List.flatMap_cons,List.flatMap_nil,List.append_nil,tH];induction L with
 | nil=>rfl
 | cons p r ih=>erw[List.map_cons,List.flatMap_cons,we,ih,List.map_cons];rfl
include hL in
theorem va:∀b∈L.map (ag W dat)++[af ts],(∃p,p.1∈ts∧PV W p∧b=ag W dat p)∨b=af ts:=fun b hb=>by
 rw[List.mem_append,List.mem_singleton]at hb;rcases hb with hb|rfl
 ·obtain⟨p,hp,rfl⟩:=List.mem_map.mp hb;exact .inl ⟨p,(hL p hp).1,(hL p hp).2,rfl⟩
 ·exact .inr rfl
include O in
theorem xL {i:Nat} {a:aT} (h:(eu X (L.map (ag W dat)++[af ts])).ar[i]?=some a) (hb:a.ins.isBL=true):
 ((eu X (L.map (ag W dat)++[af ts])).body<i∧a.mp=[])∨(i≤(eu X (L.map (ag W dat)++[af ts])).body∧∃p pre,dz ((eu X (L.map (ag W dat)++[af ts])).rows.take i)=pre++[gn p]∧a.mp=[(0:Int)-8-4*((p.2:Nat):Int)]∧p∈L):=by
 delta W ts dat X L O i a h hb at ⊢;have hi:i<au (L.map (ag W dat)++[af ts]):=by erw[←dT (X:=X)];rw[List.getElem?_eq_some_iff]at h;exact h.1
 have hpn:az (L.map (ag W dat)++[af ts]) none=au (L.map (ag W dat)):=by
  erw[gN]
  ·simp[kC,bv,af]
  ·intro h;obtain⟨b,hb,e⟩:=List.mem_map.mp h;obtain⟨p,_,rfl⟩:=List.mem_map.mp hb;cases e
 injection (KF O.nd hi)with b hbm o ho rfl;have hs:b.rows[o]?=some b.rows[o]:=List.getElem?_eq_getElem ho
 injection (tT hs)with s hs;rw[jw O hbm hs]at h;cases h;rw[List.mem_append,List.mem_singleton]at hbm;rcases hbm with hbm|rfl
 ·right;injection (List.mem_map.mp hbm)with p hp rfl;injection (List.append_of_mem hp)with L1 L2 rfl;have hO:=O.nd
  have hsp:(L1++p::L2).map (ag W dat)++[af ts]=L1.map (ag W dat)++ag W dat p::(L2.map (ag W dat)++[af ts]):=by simp
  have hpos:az ((L1++p::L2).map (ag W dat)++[af ts]) (some p)=au (L1.map (ag W dat)):=by
   rw[hsp]at hO ⊢;exact n0 (b:=ag W dat p) hO
  have hidp:(ag W dat p).id=some p:=rfl
  refine⟨?_,p,dz ((eu X ((L1++p::L2).map (ag W dat)++[af ts])).rows.take (au (L1.map (ag W dat)))),?_,?_,by simp⟩
  ·show _≤az _ none
   erw[hpn,hidp,hpos,List.map_append,List.map_cons,fC];have:au (ag W dat p::L2.map (ag W dat))=(ag W dat p).rows.length+au (L2.map (ag W dat)):=by simp[au]
   exact Fc ho this
  ·erw[hidp,hpos]
   have h4:4≤o:=by
    rcases Nat.lt_or_ge o 4 with h|h
    ·exfalso
     have:(ag W dat p).rows[o]?=(dE (dat p.1) p.1 p.2)[o]?:=by
      unfold ag;dsimp only;erw[List.append_assoc,List.getElem?_append_left (by simp[dE];omega)]
     rw[this]at hs
     have hb':∀s∈dE (dat p.1) p.1 p.2,∀pos i,(cM pos i s).ins.isBL=false:=fun s hs pos i=>by
      unfold dE at hs;simp only[List.mem_cons,List.not_mem_nil,or_false]at hs;rcases hs with rfl|rfl|rfl|rfl<;>rfl
     rw[hb' s (List.mem_of_getElem? hs)]at hb;cases hb
    ·exact h
   have htk:(eu X ((L1++p::L2).map (ag W dat)++[af ts])).rows.take (au (L1.map (ag W dat))+o)=(eu X ((L1++p::L2).map (ag W dat)++[af ts])).rows.take (au (L1.map (ag W dat)))++((eu X ((L1++p::L2).map (ag W dat)++[af ts])).rows.drop (au (L1.map (ag W dat)))).take o:=by
    erw[List.take_add]
   unfold dz;erw[htk,List.filterMap_append];congr 1;generalize hPP:az ((L1++p::L2).map (ag W dat)++[af ts])=PP
   have hdrop:(eu X ((L1++p::L2).map (ag W dat)++[af ts])).rows.drop (au (L1.map (ag W dat)))=((fR PP (ag W dat p).rows (au (L1.map (ag W dat)))).map aT.ins)++(d7 PP (L2.map (ag W dat)++[af ts]) (au (L1.map (ag W dat))+(ag W dat p).rows.length)).map aT.ins:=by
    erw[nL,hPP,hsp,fH,List.map_append,List.drop_left' (by erw[List.length_map,gK])];erw[Nat.zero_add];show(d7 PP (ag W dat p::(L2.map (ag W dat)++[af ts])) (au (L1.map (ag W dat)))).map aT.ins=_
    erw[bB,List.map_append]
   erw[hdrop,List.take_append_of_le_length (by erw[List.length_map,ff];omega)]
   have hrd:∀(l:List bV) (i o:Nat),((fR PP l i).map aT.ins).take o=(fR PP (l.take o) i).map aT.ins:=by
    intro l;induction l with
    | nil=>intro i o;simp[gJ,be]
    | cons s r ih=>
     intro i o;cases o with
     | zero=>simp[gJ,be]
     | succ o=>erw[be,List.map_cons,List.take_succ_cons,ih,List.take_succ_cons,be,List.map_cons]
   erw[hrd];have hm:=kf PP ((ag W dat p).rows.take o) (au (L1.map (ag W dat)))
   unfold dz at hm;erw[hm]
   have hbk:(ag W dat p).rows.take o=dE (dat p.1) p.1 p.2++((aq W p).map (eO p.2)++eL).take (o-4):=by
    unfold ag;dsimp only;erw[List.append_assoc,List.take_append];have h4':(dE (dat p.1) p.1 p.2).length=4:=rfl
    erw[List.take_of_length_le (by erw[h4'];exact h4),h4']
   erw[hbk,List.filterMap_append]
   have hno:∀s∈((aq W p).map (eO p.2)++eL).take (o-4),jN s=none:=fun s hs=>by
    have hs:=List.mem_of_mem_take hs
    rw[List.mem_append]at hs;rcases hs with hs|hs
    ·obtain⟨d,_,rfl⟩:=List.mem_map.mp hs;unfold eO;split<;>rfl
    ·unfold eL at hs;simp only[List.mem_cons,List.not_mem_nil,or_false]at hs;rcases hs with rfl|rfl|rfl<;>rfl
   have hnil:(((aq W p).map (eO p.2)++eL).take (o-4)).filterMap jN=[]:=List.filterMap_eq_nil_iff.mpr hno
   erw[hnil];rfl
  ·have hsm:=List.mem_of_getElem? hs
   unfold ag at hsm;dsimp only at hsm;rw[List.mem_append,List.mem_append]at hsm;rcases hsm with(hsm|hsm)|hsm
   ·exfalso;unfold dE at hsm;simp only[List.mem_cons,List.not_mem_nil,or_false]at hsm;rcases hsm with rfl|rfl|rfl|rfl<;>cases hb
   ·injection (List.mem_map.mp hsm)with d _ rfl;unfold eO at hb ⊢;split at hb
    ·cases hb
    ·rfl
   ·exfalso;unfold eL at hsm;simp only[List.mem_cons,List.not_mem_nil,or_false]at hsm;rcases hsm with rfl|rfl|rfl<;>cases hb
 ·left;have hsm:=List.mem_of_getElem? hs
  have hidb:(af ts).id=none:=rfl
  refine⟨?_,?_⟩
  ·erw[hidb];show az _ none<_
   have h4:o≠0:=by
    intro h;subst h
    have:s=.fix (.reg .str 15 14 (-4)) false:=by
     unfold af fq at hs;simpa using hs.symm
    rw[this]at hb;cases hb
   exact Fb h4
  ·unfold af fq at hsm;dsimp only at hsm;rw[List.mem_append,List.mem_append]at hsm;rcases hsm with(hsm|hsm)|hsm
   ·exfalso;simp only[List.mem_cons,List.not_mem_nil,or_false]at hsm;rcases hsm with rfl|rfl|rfl|rfl<;>cases hb
   ·injection (List.mem_map.mp hsm)with t _ rfl;rfl
   ·exfalso;simp only[List.mem_cons,List.not_mem_nil,or_false]at hsm;rcases hsm with rfl|rfl|rfl|rfl<;>cases hb
end
section
variable {W:Wd} (hW:dj W) (hl:W.length≤3) {ts:List Nat} {dat:Nat→Int} {X:Bs} {L:List (Nat×Nat)} (O:pz X (L.map (ag W dat)++[af ts])) (hL:∀p∈L,p.1∈ts∧PV W p) (hfew:ts.length≤3)
 {ca da:Int} (hdat:∀t∈ts,da+dat t<90000) (hmem:∀t∈ts,eS (X.words.foldl (fun m p=>bE m (da+p.1) p.2) []) (da+dat t)=some (900+(t:Int)))
include hW hl O hL hdat hmem
omit hW hl O hL hdat in
theorem rJ {first:Nat}:Sx ts dat da (dA (eu X (L.map (ag W dat)++[af ts])) ca da first) 100000:=⟨rfl,rfl,rfl,hmem⟩
theorem qL {p:Nat×Nat} (hp:p∈L):∃k s',jf (dW (eu X (L.map (ag W dat)++[af ts])) ca da) ca (dA (eu X (L.map (ag W dat)++[af ts])) ca da (az (L.map (ag W dat)++[af ts]) (some p))) s' k∧k<6000∧s'.here=-1∧s'.regs[14]?=some 100000∧s'.heard=f8 W p:=by
 delta W hW hl ts dat X L O hL ca da hdat hmem p hp at ⊢;obtain⟨h1,h2⟩:=hL p hp;have hr:=(PV.rk hl h2).1
 have hin:(some p:Id)∈(L.map (ag W dat)++[af ts]).map (fun U=>U.id):=List.mem_map.mpr ⟨ag W dat p,List.mem_append.mpr (.inl (List.mem_map_of_mem hp)),rfl⟩
 obtain⟨s',k,r,hk,hh,hS,-,hhd⟩:=rU hW hl O (va hL) (ca:=ca) hdat (rk p+1) p (by omega) h2 h1 hin (dA (eu X (L.map (ag W dat)++[af ts])) ca da (az (L.map (ag W dat)++[af ts]) (some p))) 100000 (-1) rfl (rJ hmem) rfl (by exact Fa hr);have hb:=ox hr (Nat.le_refl 11)
 have hb11:vp 11=287:=by decide
 exact⟨k,s',r,by exact DM hb11 hk hb,hh,s6 hS.len (by omega) hS.r14,by erw[hhd];rfl⟩
include hfew in
theorem qM:∃k s',jf (dW (eu X (L.map (ag W dat)++[af ts])) ca da) ca (dA (eu X (L.map (ag W dat)++[af ts])) ca da (eu X (L.map (ag W dat)++[af ts])).body) s' k∧k<6000∧s'.here=-1∧s'.regs[14]?=some 100000∧s'.heard=ts.flatMap fun t=>f8 W (t,0):=by
 delta W hW hl ts dat X L O hL hfew ca da hdat hmem at ⊢;have hb:af ts∈L.map (ag W dat)++[af ts]:=by simp
 have hget:∀{o:Nat} {sr:bV},(fq ts)[o]?=some sr→(dW (eu X (L.map (ag W dat)++[af ts])) ca da)[az (L.map (ag W dat)++[af ts]) none+o]?=some (wk ca da (cM (az (L.map (ag W dat)++[af ts])) (az (L.map (ag W dat)++[af ts]) none+o) sr)):=fun h=>xK O hb h
 have hrp:=rU hW hl O (va hL) (ca:=ca) hdat
 have hS0:=rJ (W:=W) (L:=L) (ca:=ca) hmem (first:=az (L.map (ag W dat)++[af ts]) none)
 have hs0:(dA (eu X (L.map (ag W dat)++[af ts])) ca da (az (L.map (ag W dat)++[af ts]) none)).here=ca+(az (L.map (ag W dat)++[af ts]) none:Nat):=rfl
 have h15:dK (dA (eu X (L.map (ag W dat)++[af ts])) ca da (az (L.map (ag W dat)++[af ts]) none)).regs 15=-1:=rfl
 have hhd0:(dA (eu X (L.map (ag W dat)++[af ts])) ca da (az (L.map (ag W dat)++[af ts]) none)).heard=[]:=rfl
 show ∃k s',jf _ ca (dA _ ca da (az (L.map (ag W dat)++[af ts]) none)) s' k∧_
 generalize dA (eu X (L.map (ag W dat)++[af ts])) ca da (az (L.map (ag W dat)++[af ts]) none)=s at hS0 hs0 h15 hhd0 ⊢;generalize hrows:dW (eu X (L.map (ag W dat)++[af ts])) ca da=rows at hget hrp ⊢
 have htgt:∀t∈ts,(some (t,0):Id)∈(L.map (ag W dat)++[af ts]).map (fun U=>U.id):=fun t ht=>O.tgt _ hb (.bl (some (t,0)) 0 []) (by
  unfold af fq;simp only[List.mem_append,List.mem_map]
  exact .inl (.inr ⟨t,ht,rfl⟩)) _ rfl
 have hpv:∀t∈ts,PV W (t,0):=fun t ht=>by
  obtain⟨b',hb',e'⟩:=ga (htgt t ht);rcases va hL b' hb' with⟨p',_,h4,rfl⟩|rfl
  ·have e2:(some p':Id)=some (t,0):=e'
   cases e2;exact h4
  ·cases e'
 generalize hPB:az (L.map (ag W dat)++[af ts])=PB at hget hrp hs0;generalize hP:PB none=P at hget hs0;have g0:=hget (o:=0) (sr:=.fix (.reg .str 15 14 (-4)) false) rfl
 have g1:=hget (o:=1) (sr:=.fix (.reg .str 11 14 (-8)) false) rfl
 have g2:=hget (o:=2) (sr:=.fix (.reg .mov 11 0 14) false) rfl
 have g3:=hget (o:=3) (sr:=.fix (.reg .subi 14 14 8) false) rfl
 have hlen:=hS0.len
 have e1:s.step (.reg .str 15 14 (-4))=⟨ca+(P:Nat)+1,s.regs,bE s.mem 99996 (-1),[]⟩:=by
  show Em.mk (s.here+1) s.regs (bE s.mem (dK s.regs 14+-4) (dK s.regs 15)) s.heard=_
  erw[hS0.r14,h15,hs0,hhd0];rfl
 generalize hr11:dK s.regs 11=r11
 have e2:Em.step ⟨ca+(P:Nat)+1,s.regs,bE s.mem 99996 (-1),[]⟩ (.reg .str 11 14 (-8))=⟨ca+(P:Nat)+2,s.regs,bE (bE s.mem 99996 (-1)) 99992 r11,[]⟩:=by
  show Em.mk (ca+(P:Nat)+1+1) s.regs (bE (bE s.mem 99996 (-1)) (dK s.regs 14+-8) (dK s.regs 11)) []=_
  erw[hS0.r14,hr11];congr 1;exact AJ
 have e3:Em.step ⟨ca+(P:Nat)+2,s.regs,bE (bE s.mem 99996 (-1)) 99992 r11,[]⟩ (.reg .mov 11 0 14)=⟨ca+(P:Nat)+3,s.regs.set 11 100000,bE (bE s.mem 99996 (-1)) 99992 r11,[]⟩:=by
  show Em.mk (ca+(P:Nat)+2+1) (s.regs.set 11 (dK s.regs 14)) _ []=_
  erw[hS0.r14];congr 1;exact AI
 have e4:Em.step ⟨ca+(P:Nat)+3,s.regs.set 11 100000,bE (bE s.mem 99996 (-1)) 99992 r11,[]⟩ (.reg .subi 14 14 8)=⟨ca+(P:Nat)+4,(s.regs.set 11 100000).set 14 99992,bE (bE s.mem 99996 (-1)) 99992 r11,[]⟩:=by
  show Em.mk (ca+(P:Nat)+3+1) (List.set _ 14 (dK (s.regs.set 11 100000) 14-8)) _ []=_
  erw[an hlen (by omega),if_neg (by omega),hS0.r14];congr 1;exact AH
 have ok:∀op a b c,0≤a→a<16→0≤b→b<16→(op=Op.mov→0≤c∧c<16)→vt (.reg op a b c):=fun op a b c h1 h2 h3 h4 h5=>⟨h1,h2,h3,h4,h5⟩
 have r1:=cV (rows:=rows) (ca:=ca) (by erw[hs0];simp) g0 (ok _ _ _ _ (by omega) (by omega) (by omega) (by omega) (fun h=>by cases h)) e1
 have r2:=cV (rows:=rows) (ca:=ca) (s:=⟨ca+(P:Nat)+1,s.regs,bE s.mem 99996 (-1),[]⟩) (by dsimp only;exact AG) g1 (ok _ _ _ _ (by omega) (by omega) (by omega) (by omega) (fun h=>by cases h)) e2
 have r3:=cV (rows:=rows) (ca:=ca) (s:=⟨ca+(P:Nat)+2,s.regs,bE (bE s.mem 99996 (-1)) 99992 r11,[]⟩) (by dsimp only;exact AF) g2 (ok _ _ _ _ (by omega) (by omega) (by omega) (by omega) (fun U=>by omega)) e3
 have r4:=cV (rows:=rows) (ca:=ca) (s:=⟨ca+(P:Nat)+3,s.regs.set 11 100000,bE (bE s.mem 99996 (-1)) 99992 r11,[]⟩) (by dsimp only;exact AE) g3 (ok _ _ _ _ (by omega) (by omega) (by omega) (by omega) (fun h=>by cases h)) e4
 have calls:∀(suf pre:List Nat),ts=pre++suf→∀s:Em,s.here=ca+(P:Nat)+4+(pre.length:Nat)→Sx ts dat da s 99992→
  ∃s' n,jf rows ca s s' n∧n≤suf.length*288∧s'.here=ca+(P:Nat)+4+(ts.length:Nat)∧Sx ts dat da s' 99992∧Fx s s' 99992∧s'.heard=s.heard++suf.flatMap fun t=>f8 W (t,0):=by
  intro suf;induction suf with
  | nil=>
   intro pre e s h1 h2;exact⟨s,0,.nil,by omega,by erw[h1,e,List.append_nil],h2,⟨rfl,fun U U=>rfl⟩,by simp⟩
  | cons t suf ihd=>
   intro pre e s h1 h2;have ht:t∈ts:=by erw[e];simp
   have hg:=hget (o:=4+pre.length) (sr:=.bl (some (t,0)) 0 []) (by
    unfold fq;erw[e,List.append_assoc,List.getElem?_append_right (by simp)];show((List.map (fun t=>bV.bl (some (t,0)) 0 []) (pre++t::suf))++_)[4+pre.length-4]?=_
    erw[show 4+pre.length-4=pre.length by exact AD,List.map_append,List.append_assoc,List.getElem?_append_right (by simp)]
    simp)
   have es:s.step (.bl ((PB (some (t,0)):Nat)-((P+(4+pre.length):Nat):Int)-1) 0)=⟨ca+(PB (some (t,0)):Nat),s.regs.set 15 (ca+(P:Nat)+4+((pre++[t]).length:Nat)),s.mem,s.heard⟩:=by
    show Em.mk (s.here+1+_) (s.regs.set 15 (s.here+1)) _ _=_
    erw[h1,List.length_append];congr 1
    ·exact AC
    ·congr 1;simp;exact Cc
   have hr1:=cV (rows:=rows) (ca:=ca) (s:=s) (i:=P+(4+pre.length)) (by erw[h1];exact Cb) hg trivial es
   have hS1:Sx ts dat da ⟨ca+(PB (some (t,0)):Nat),s.regs.set 15 (ca+(P:Nat)+4+((pre++[t]).length:Nat)),s.mem,s.heard⟩ 99992:=
    ⟨by erw[List.length_set];exact h2.len,by erw[an h2.len (by omega),if_neg (by omega)];exact h2.r14,by erw[an h2.len (by omega),if_neg (by omega)];exact h2.r13,h2.dat⟩
   have hrk:=(PV.rk hl (hpv t ht)).1
   obtain⟨s2,n2,r2,hn2,hh2,hS2,hF2,hhd2⟩:=hrp (rk (t,0)+1) (t,0) (by omega) (hpv t ht) ht (htgt t ht) _ 99992 (ca+(P:Nat)+4+((pre++[t]).length:Nat)) rfl hS1 (by erw[an h2.len (by omega),if_pos rfl]) (by exact F9 hrk);obtain⟨s',n,r,hn,hh',hS',hF',hhd⟩:=ihd (pre++[t]) (by erw[e];simp) s2 hh2 hS2;refine⟨s',1+n2+n,(hr1.trans r2).trans r,?_,hh',hS',⟨?_,fun a ha=>?_⟩,?_⟩
   ·have:=ox hrk (Nat.le_refl 11)
    have hb11:vp 11=287:=by decide
    erw[List.length_cons,Nat.succ_mul];exact DL hb11 hn2 hn this
   ·erw[hF'.1,hF2.1];exact(an h2.len (by omega)).trans (if_neg (by omega))
   ·erw[hF'.2 a ha,hF2.2 a ha]
   ·erw[hhd,hhd2];simp
 have hl11:(s.regs.set 11 100000).length=16:=by erw[List.length_set];exact hlen
 obtain⟨s5,n5,r5,hn5,hh5,hS5,hF5,hhd5⟩:=calls ts [] rfl ⟨ca+(P:Nat)+4,(s.regs.set 11 100000).set 14 99992,bE (bE s.mem 99996 (-1)) 99992 r11,[]⟩ (by simp)
  ⟨by erw[List.length_set];exact hl11,by erw[an hl11 (by omega),if_pos rfl],by erw[an hl11 (by omega),if_neg (by omega),an hlen (by omega),if_neg (by omega)];exact hS0.r13,
   fun t ht=>by have:=hdat t ht;erw[dd,if_neg (by exact F8 this),dd,if_neg (by exact F7 this)];exact hS0.dat t ht⟩
 have h511:dK s5.regs 11=100000:=by erw[hF5.1,an hl11 (by omega),if_neg (by omega),an hlen (by omega),if_pos rfl]
 have hm15:eS s5.mem 99996=some (-1):=by erw[hF5.2 _ (.inl (by omega)),dd,if_neg (by omega),dd,if_pos rfl]
 have hm11:eS s5.mem 99992=some r11:=by erw[hF5.2 _ (.inl (by omega)),dd,if_pos rfl]
 have ht:∀o:Nat,(fq ts)[4+ts.length+o]?=([.fix (.reg .mov 14 0 11) false,.fix (.reg .ldr 15 14 (-4)) false,.fix (.reg .ldr 11 14 (-8)) false,.fix (.br 15 0) false]:List bV)[o]?:=fun o=>by
  unfold fq;erw[List.append_assoc,List.getElem?_append_right (by simp;exact AB),List.getElem?_append_right (by simp;exact AA)];congr 1;simp;exact Az
 have g4:=hget ((ht 0).trans (by rfl:_=some (.fix (.reg .mov 14 0 11) false)))
 have g5:=hget ((ht 1).trans (by rfl:_=some (.fix (.reg .ldr 15 14 (-4)) false)))
 have g6:=hget ((ht 2).trans (by rfl:_=some (.fix (.reg .ldr 11 14 (-8)) false)))
 have g7:=hget ((ht 3).trans (by rfl:_=some (.fix (.br 15 0) false)))
 have q4e:s5.step (.reg .mov 14 0 11)=⟨ca+(P:Nat)+5+(ts.length:Nat),s5.regs.set 14 100000,s5.mem,s5.heard⟩:=by
  show Em.mk (s5.here+1) (s5.regs.set 14 (dK s5.regs 11)) _ _=_
  erw[h511,hh5];congr 1;exact Ay
 have hl14:(s5.regs.set 14 100000).length=16:=by erw[List.length_set];exact hS5.len
 have h14:dK (s5.regs.set 14 100000) 14=100000:=by erw[an hS5.len (by omega),if_pos rfl]
 have q5e:Em.step ⟨ca+(P:Nat)+5+(ts.length:Nat),s5.regs.set 14 100000,s5.mem,s5.heard⟩ (.reg .ldr 15 14 (-4))=⟨ca+(P:Nat)+6+(ts.length:Nat),(s5.regs.set 14 100000).set 15 (-1),s5.mem,s5.heard⟩:=by
  show Em.mk (ca+(P:Nat)+5+(ts.length:Nat)+1) (List.set _ 15 ((eS s5.mem (dK (s5.regs.set 14 100000) 14+-4)).getD 0)) _ (if(15:Int)=1 then _ else s5.heard)=_
  erw[h14,show(100000:Int)+-4=99996 by omega,hm15,if_neg (by omega)];congr 1;exact Ax
 have hl15:((s5.regs.set 14 100000).set 15 (-1)).length=16:=by erw[List.length_set];exact hl14
 have q6e:Em.step ⟨ca+(P:Nat)+6+(ts.length:Nat),(s5.regs.set 14 100000).set 15 (-1),s5.mem,s5.heard⟩ (.reg .ldr 11 14 (-8))=⟨ca+(P:Nat)+7+(ts.length:Nat),((s5.regs.set 14 100000).set 15 (-1)).set 11 r11,s5.mem,s5.heard⟩:=by
  show Em.mk (ca+(P:Nat)+6+(ts.length:Nat)+1) (List.set _ 11 ((eS s5.mem (dK ((s5.regs.set 14 100000).set 15 (-1)) 14+-8)).getD 0)) _ (if(11:Int)=1 then _ else s5.heard)=_
  erw[an hl14 (by omega),if_neg (by omega),h14,show(100000:Int)+-8=99992 by omega,hm11,if_neg (by omega)];congr 1;exact F6
 have q7e:Em.step ⟨ca+(P:Nat)+7+(ts.length:Nat),((s5.regs.set 14 100000).set 15 (-1)).set 11 r11,s5.mem,s5.heard⟩ (.br 15 0)=⟨-1,((s5.regs.set 14 100000).set 15 (-1)).set 11 r11,s5.mem,s5.heard⟩:=by
  show Em.mk (dK (((s5.regs.set 14 100000).set 15 (-1)).set 11 r11) 15) _ _ _=_
  erw[an hl15 (by omega),if_neg (by omega),an hl14 (by omega),if_pos rfl]
 have q4:=cV (rows:=rows) (ca:=ca) (s:=s5) (i:=P+(4+ts.length+0)) (by erw[hh5];exact Aw) g4 (ok _ _ _ _ (by omega) (by omega) (by omega) (by omega) (fun U=>by omega)) q4e
 have q5:=cV (rows:=rows) (ca:=ca) (s:=⟨ca+(P:Nat)+5+(ts.length:Nat),s5.regs.set 14 100000,s5.mem,s5.heard⟩) (i:=P+(4+ts.length+1)) (by dsimp only;exact Av) g5 (ok _ _ _ _ (by omega) (by omega) (by omega) (by omega) (fun h=>by cases h)) q5e
 have q6:=cV (rows:=rows) (ca:=ca) (s:=⟨ca+(P:Nat)+6+(ts.length:Nat),(s5.regs.set 14 100000).set 15 (-1),s5.mem,s5.heard⟩) (i:=P+(4+ts.length+2)) (by dsimp only;exact Au) g6 (ok _ _ _ _ (by omega) (by omega) (by omega) (by omega) (fun h=>by cases h)) q6e
 have q7:=cV (rows:=rows) (ca:=ca) (s:=⟨ca+(P:Nat)+7+(ts.length:Nat),((s5.regs.set 14 100000).set 15 (-1)).set 11 r11,s5.mem,s5.heard⟩) (i:=P+(4+ts.length+3)) (by dsimp only;exact F5) g7 ⟨by omega,by omega⟩ q7e
 refine⟨_,_,((((((((r1.trans r2).trans r3).trans r4).trans r5).trans q4).trans q5).trans q6).trans q7),by exact F4 hn5 hfew,rfl,?_,?_⟩
 ·refine s6 (by erw[List.length_set];exact hl15) (by omega) ?_;erw[an hl15 (by omega),if_neg (by omega),an hl14 (by omega),if_neg (by omega)];exact h14
 ·show s5.heard=_
  erw[hhd5];rfl
end
theorem fk {α:Type} {d:Nat} {f:α→V} (h:∀a,mA d (f a) (f a) true):∀l:List α,je d (l.map f) (l.map f) true
 | []=>.nil
 | a::r=>by have:=je.cons (h a) (fk h r);simpa using this
theorem ik {d:Nat} (i:Int):mA d (.int i) (.int i) true:=by have:=mA.int (d:=d) i i;rwa[beq_self_eq_true]at this
theorem qU {d:Nat} (x:Str):mA d (.str x) (.str x) true:=by have:=mA.str (d:=d) x x;rwa[beq_self_eq_true]at this
theorem zJ {d:Nat} (r:aN):mA (d+1) r.v r.v true:=by
 delta d r at ⊢;refine .tup ?_;have h:mA d r.one r.one true:=by cases r<;>first|exact ik _|exact qU _
 have:=je.cons (qU r.op) (.cons h (.cons (ik r.two) (.cons (ik r.three) .nil)))
 simpa using this
def pV (p:Nat×Nat):V:=.tup [.str (nm p.1),.int (p.2:Nat)]
def Lq (p:Nat×Nat):V→Bool
 | .tup [.str x,.int i]=>(x==nm p.1)&&((i==(p.2:Nat))&&true)
 | _=>false
theorem Cy {p:Nat×Nat} {l:List (Nat×Nat)}:∀u∈l.map pV,mA 10 u (pV p) (Lq p u):=fun u hu=>by
 obtain⟨q,_,rfl⟩:=List.mem_map.mp hu;exact .tup (.cons (.str _ _) (.cons (.int _ _) .nil))
theorem vh {W:Wd} (hl:W.length≤3) {p:Nat×Nat} (hp:PV W p):∀{l:List (Nat×Nat)},(∀q∈l,PV W q)→(l.map pV).any (Lq p)=decide (p∈l)
 | [],_=>rfl
 | q::r,h=>by
  erw[List.map_cons,List.any_cons,vh hl hp fun q hq=>h q (.tail _ hq)];have h1:=(PV.rk hl hp).2
  have h2:=(PV.rk hl (h q (.head _))).2
  show((nm q.1==nm p.1)&&(((q.2:Int)==(p.2:Nat))&&true)||_)=_
  by_cases e:q=p
  ·subst e;simp
  ·have e':¬p=q:=fun h=>e h.symm
   have:((nm q.1==nm p.1)&&(((q.2:Int)==(p.2:Nat))&&true))=false:=by
    erw[Bool.and_eq_false_iff];by_cases h3:q.1=p.1
    ·right;erw[Bool.and_true,beq_eq_false_iff_ne];intro h4;exact e (Prod.ext h3 (by exact F3 h4))
    ·left;erw[beq_eq_false_iff_ne];exact fun h4=>h3 (i9 (by omega) (by omega) h4)
   erw[this];simp[e']
theorem rK {a b:List Int} (h:a.Perm b) (ha:a.Pairwise (·≤·)) (hb:b.Pairwise (·≤·)):a=b:=h.eq_of_pairwise (fun x y U U h1 h2=>Int.le_antisymm h1 h2) ha hb
theorem w8:∀a b c d:Fin 3,sortedS [bM (a.val,b.val),bM (c.val,d.val)]=true→sortedS [bM (c.val,d.val),bM (a.val,b.val)]=true→bM (a.val,b.val)=bM (c.val,d.val):=by decide +kernel
theorem PV.fin {W:Wd} (hW:dj W) (hl:W.length≤3) {p:Nat×Nat} (hp:PV W p):p.1<3∧p.2<3:=by
 have h1:=(PV.rk hl hp).2
 obtain⟨m,hm,h2⟩:=hp;have:=(hW _ m hm).few
 exact F2 h1 h2 hl this
theorem qy {W:Wd} (hW:dj W) (hl:W.length≤3) {a b:List Str} (hn:a.Nodup) (hm:b.Nodup) (hab:∀x,x∈a↔x∈b) (ha:∀x∈a,∃p,PV W p∧x=bM p) (h2:a.length≤2) (s1:sortedS a=true) (s2:sortedS b=true):a=b:=by
 have hp:a.Perm b:=(List.perm_ext_iff_of_nodup hn hm).mpr hab
 have hlen:=hp.length_eq
 cases a with
 | nil=>exact hp.nil_eq
 | cons x a=>cases a with
 | nil=>exact(List.perm_singleton.mp hp.symm).symm
 | cons y a=>
  have ha0:a=[]:=List.eq_nil_of_length_eq_zero (Nat.le_zero.mp (Nat.le_of_succ_le_succ (Nat.le_of_succ_le_succ h2)))
  subst ha0
  have hb0:∃u v,b=[u,v]:=by
   cases b with
   | nil=>cases hlen
   | cons u b=>cases b with
    | nil=>cases hlen
    | cons v b=>exact⟨u,v,congrArg (fun b=>u::v::b) (List.eq_nil_of_length_eq_zero (Nat.succ.inj (Nat.succ.inj hlen)).symm)⟩
  obtain⟨u,v,hb0⟩:=hb0;subst hb0;have h3:=(hab x).mp (.head _)
  have h4:=(hab y).mp (by simp)
  simp only[List.mem_cons,List.not_mem_nil,or_false]at h3 h4;have hxy:x≠y:=by intro e;subst e;simp at hn
  rcases h3 with rfl|rfl
  ·rcases h4 with rfl|rfl
   ·exact absurd rfl hxy
   ·rfl
  ·rcases h4 with rfl|rfl
   ·obtain⟨p,hp1,rfl⟩:=ha _ (.head _);obtain⟨q,hq1,rfl⟩:=ha y (by simp);obtain⟨f1,f2⟩:=hp1.fin hW hl;obtain⟨f3,f4⟩:=hq1.fin hW hl;exact absurd (w8 ⟨p.1,f1⟩ ⟨p.2,f2⟩ ⟨q.1,f3⟩ ⟨q.2,f4⟩ s1 s2) hxy
   ·exact absurd rfl hxy
theorem vC:∀a b:Fin 3,nm a.val++"_P"++Str.ofString (toString ((b.val:Nat):Int))=bM (a.val,b.val):=by decide +kernel
theorem pD {W:Wd} (hW:dj W) (hl:W.length≤3) {p:Nat×Nat} (hp:PV W p):nm p.1++"_P"++Str.ofString (toString ((p.2:Nat):Int))=bM p:=by
 obtain⟨h1,h2⟩:=hp.fin hW hl;exact vC ⟨p.1,h1⟩ ⟨p.2,h2⟩
theorem qG:∀a b:Fin 3,Str.length (nm a.val)=1∧Str.length (eE b.val)=2∧Str.length (Str.ofString (toString ((b.val:Nat):Int)))=1:=by decide +kernel
def yx (W:Wd):List (Nat×Nat):=(List.range W.length).flatMap (gh W)
theorem su {W:Wd} {p:Nat×Nat} (h:PV W p):p∈yx W:=by
 obtain⟨m,hm,_⟩:=id h;exact List.mem_flatMap.mpr ⟨p.1,List.mem_range.mpr (by rw[List.getElem?_eq_some_iff]at hm;exact hm.1),fL.mpr ⟨rfl,h⟩⟩
theorem wH {W:Wd} (hW:dj W) (hl:W.length≤3):(yx W).length≤9:=by
 have h1:=li hW (dat:=fun U=>0) (List.range W.length)
 rw[List.length_range]at h1
 have h2:(dD W (fun U=>0) (List.range W.length)).length=(yx W).length:=by
  unfold dD jI yx;erw[←List.map_flatMap,List.length_map]
 exact F1 h2 h1 hl
theorem tt {n:Nat} {η:aI} {σ:aj} {Q:V→aj→Prop} {e:Expr} {f1 f2:Str} {fp fp2 pos pos2:Pos} (hs:gx η f1 .glb) (ht:gx η f2 .glb) (g1:S.glob f1 (.builtin "sorted")∧aA S.K (.builtin "sorted")=true) (g2:S.glob f2 (.type "set")∧aA S.K (.type "set")=true)
 (h:TE n e η σ fun l σ'=>∃us:List Str,aM σ' l (.lst (us.map V.str))∧us.length≤2∧∀us' a,us'.Nodup→(∀x,x∈us'↔x∈us)→sortedS us'=true→Q (.loc a) ((a,.lst (us'.map V.str))::σ'))
 (he1:autoParam (∀env,eval (.Call (.Name f1 fp) [.Call (.Name f2 fp2) [e] [] pos2] [] pos) env=(do callWith pos (←eval (.Name f1 fp) env) [] (backTo pos (starEach [.Call (.Name f2 fp2) [e] [] pos2] env)) [])) tI)
 (he2:autoParam (∀env,eval (.Call (.Name f2 fp2) [e] [] pos2) env=(do callWith pos2 (←eval (.Name f2 fp2) env) [] (backTo pos2 (starEach [e] env)) [])) tI)
 (hst1:autoParam (∀env,starEach [.Call (.Name f2 fp2) [e] [] pos2] env=(false,eval (.Call (.Name f2 fp2) [e] [] pos2) env)::starEach [] env) tI)
 (hst2:autoParam (∀env,starEach [e] env=(false,eval e env)::starEach [] env) tI):
 TE n (.Call (.Name f1 fp) [.Call (.Name f2 fp2) [e] [] pos2] [] pos) η σ Q:=fun A B P env s R hA I k=>by
 refine Call_ (I.global hs g1.1 ?_) (he1 env)
 obtain⟨P0,I0⟩:=I.inv0
 refine eU (first:=[]) I0.kin g1.2 (wpAny_items_cons ?_ (hst1 env)) (hst1 env) rfl
 refine Call_ (I.global ht g2.1 ?_) (he2 env)
 refine eU (first:=[]) I0.kin g2.2 (wpAny_items_cons ?_ (hst2 env)) (hst2 env) rfl
 refine h A B P env s _ hA I fun l σ' x s' B' q HB I' hx=>wpAny_items_nil ?_
 obtain⟨us,hv,hz,hq⟩:=q
 have h4:scanBound=4096:=rfl
 obtain⟨P1,I1⟩:=I'.inv0
 obtain⟨a1,o1,rfl,e1,c1⟩:=I1.view hv hx
 obtain⟨i1,m1,rfl,l1,r1⟩:=c1.isList e1
 refine⟨I1.kin,?_⟩
 refine rm hA.hand l1 (cf.strs r1) (by exact DK h4 hz) fun h' tk hS hk=>?_
 have I2:=I'.keeps (t:=tk) (d:=s'.drawn) hk
 obtain⟨P2,J2⟩:=I2.inv0
 refine wpAny_items_nil ⟨J2.kin,?_⟩
 refine pt (s:={ s' with heap:=h',toks:=tk }) hA.hand hS (by exact Ar hz) fun h1 h2 tk2 d out e us' hk1 hk2 he hc hn hm hs'=>?_
 have I3:=I'.keeps (t:=tk2) (d:=d) (h':=h1) fun b o eb=>hk1 b o (hk b o eb)
 obtain⟨oL,J3,up⟩:=I3.lift
 have fr:=J3.fresh
 exact k _ _ _ _ B' (hq us' _ hn hm hs') HB (up _ _ _ (bh.refl _) (J3.sto_put (t:=tk2) (c:=.lst (us'.map V.str)) hk2 fr.1 fr.2.1 fr.2.2 J3.freshS he ⟨_,_,rfl,cf.ofStrs hc⟩)) (.loc _)
theorem At.pst {P:dO} {σ:aj} {a:Addr} {k:bp} (h:At σ a k):At (P.st σ) a k:=.there (.there h)
theorem fK.pst {P:dO} {σ σ':aj} {a:Addr} {k k':bp} (h:fK σ a k k' σ'):fK (P.st σ) a k k' (P.st σ'):=.there (.there h)
theorem kK:∀l:List aN,(l.filter fun r=>(cN r).isSome).map (fun r=>V.int ((cN r).getD 0))=(dz l).map V.int
 | []=>rfl
 | r::l=>by
  have ih:=kK l
  unfold dz at ih ⊢;rw[List.filter_cons,List.filterMap_cons];cases h:cN r with
  | none=>simpa using ih
  | some k=>simp[h,ih]
theorem tF:∀{l:List aN} {pre:List Int} {x:Int},dz l=pre++[x]→∃l' r,(l.filter fun r=>(cN r).isSome)=l'++[r]∧cN r=some x:=by
 intro l pre x h
 have h1:((l.filter fun r=>(cN r).isSome).map (fun r=>(cN r).getD 0))=pre++[x]:=by
  rw[←h];clear h;unfold dz;induction l with
  | nil=>rfl
  | cons r l ih=>
   rw[List.filter_cons,List.filterMap_cons];cases h:cN r with
   | none=>simpa using ih
   | some k=>simp[h,ih]
 have hall:∀r∈l.filter fun r=>(cN r).isSome,(cN r).isSome=true:=fun r hr=>(List.mem_filter.mp hr).2
 generalize l.filter (fun r=>(cN r).isSome)=f at h1 hall;rcases List.eq_nil_or_concat f with e|⟨l',r,e⟩
 ·subst e;simp at h1
 ·have e':f=l'++[r]:=by simpa using e
  subst e';rw[List.map_append,List.map_singleton]at h1;have h2:=List.append_inj_right' h1 rfl
  have h3:=hall r (by simp)
  refine⟨l',r,rfl,?_⟩;cases hr:cN r with
  | none=>rw[hr]at h3;cases h3
  | some k=>rw[hr]at h2;simp at h2;rw[h2]
set_option tactic.hygienic true in
theorem wj {r:aN} {x:Int} (h:cN r=some x):∃b,r=.reg .movi 0 b x:=by
 cases r with
 | reg op a b k=>
  cases op with
  | movi=>
   unfold cN at h;dsimp only at h;split at h
   ·rename_i ha;subst ha;cases h;exact⟨b,rfl⟩
   ·cases h
  | _=>cases h
 | _=>cases h
theorem xD {J:JO} {i:Nat} {a:aT} (h:J.ar[i]?=some a) (hb:a.ins.isBL=true):aB ((bi J.ar 0).map co) ((i:Int)+1)=some (.lst (a.mp.map V.int)):=by
 have hn:(((bi J.ar 0).map co).map (fun U=>U.1)).Nodup:=by
  have e:((bi J.ar 0).map co).map (fun U=>U.1)=((bi J.ar 0).map (fun U=>U.1)).map fun j=>((j:Nat):Int):=by rw[List.map_map,List.map_map];rfl
  rw[e];exact((db J.ar 0).imp (fun h=>Nat.ne_of_lt h)).map (fun j=>((j:Nat):Int)) (fun a b h e=>h (Int.ofNat.inj e))
 have hm:=xE (i:=0) h hb
 rw[Nat.zero_add]at hm;exact cS hn (List.mem_map.mpr ⟨_,hm,rfl⟩)
section
variable (C:kq) {n:Nat} {σ:aj} {Q:V→aj→Prop}
include C
theorem KR {us:List Int} (hu:us.length≤1000) (q:Q (.bool true) σ):TF (n+16) 348 [.lst (us.map V.int)] σ Q:=by
 delta C n σ Q us hu q at ⊢;have hK:=C.hK
 refine cU (aW (by rw[hK];rfl) rfl rfl (by rw[hK];nofun) (by nofun) (by nofun) (kO fun U=>rfl) ?_);delta c;fail "j";fail "w";refine' aa (by fail "a") C.g__law_pool ?_;refine aJ (TF.up (m:=n+1) (ua C hu ?_) (by exact s7));delta P hP;fail "w";generalize hpa:P.p=pa;have hPk:ru pa P:=⟨hP,hpa⟩
 clear hpa hP;refine' aa (by fail "a") C.g__law_world ?_;refine aJ (TF.up (m:=n+3) (sP C hPk ?_) (by exact Aq));delta P W hPk hW hN1 hN3;refine' mM (fO (qs (by fail "a") (.pst .here) (.inl rfl) (fO (dr (by fail "m") (qr ?_)))));refine' aa (by fail "a") C.g__law_files ?_;refine' bw (by fail "a") (.pst .here) ?_;refine aJ (TF.up (m:=n+3) (sR C hW hN3 ?_) (by exact Aq));refine' qs (by fail "a") (.pst (.there .here)) (.inl rfl) ?_;generalize hs0:((c,bp.cell (.lst ((aL W.length).map V.str)))::(c+1,bp.cell (.dS (eJ W)))::σ:aj)=σ0;have at1:At σ0 c (.cell (.lst ((aL W.length).map V.str))):=by rw[←hs0];exact .here
 have at2:At σ0 (c+1) (.cell (.dS (eJ W))):=by rw[←hs0];exact .there .here
 have hsub0:List.Sublist σ σ0:=by rw[←hs0];exact .cons _ (.cons _ (.refl _))
 clear hs0;refine' b8 ?_;refine⟨by fail "g",?_⟩;delta wi;fail "w";refine mE ?_;refine' aa (by fail "a") C.g_range ?_;refine' aa (by fail "a") C.g__law_draw ?_;refine aJ (TF.up (m:=n+1) (ri C hPk (by decide) (by decide) ?_) (by exact s7));delta P wn hPk hwn;fail "w";refine ez ?_;have hwn1:((1:Int)+(wn:Nat)).toNat=1+wn:=by exact F0
 refine⟨⟨by exact EW hwn,by exact EU⟩,_,fun i σ'=>∃(P':dO) (ws:List (Nat×Nat)),ru pa P'∧ws.length=i∧(∀p∈ws,PV W p)∧σ'=(wi,.lst (ws.map pV))::P'.st σ0,.rng,⟨P,[],hPk,rfl,by simp,rfl⟩,?_,?_⟩
 ·delta i v' σ' hv';intro z58;injection z58 with P ws hPk hwl hwv rfl
  have hi2:i<1+wn:=by
   rw[List.getElem?_map,Option.map_eq_some_iff] at hv';obtain⟨j,hj,_⟩:=hv';rw[hwn1,List.getElem?_eq_some_iff] at hj;obtain⟨hj1,_⟩:=hj;rwa[List.length_range] at hj1
  fail "w";refine' bw (by fail "a") (.there (.pst at1)) ?_;refine' aa (by fail "a") C.g__law_draw ?_;refine' aa (by fail "a") C.g_len ?_;refine' bw (by fail "a") (.there (.pst at1)) ?_;have hnl:((aL W.length).map V.str).length=W.length:=by simp[aL]
  refine bt .lst (by exact z5 hnl hN3) ?_;rw[hnl];fail "w";refine aJ (TF.up (m:=n+1) (ri C hPk (by exact Cd hN1) (by exact yW hN3) ?_) (by exact s7));delta P t hPk ht;have htW:t<W.length:=by exact xp ht
  have hm:W[t]?=some W[t]:=List.getElem?_eq_getElem htW
  injection (tT hm) with m hm;have hmo:=hW t m hm
  have hp1:=hmo.pos
  have hp3:=hmo.few
  refine' al (v:=.str (nm t)) .lst (by rw[Int.toNat_natCast,List.getElem?_map,iS htW];rfl) (by exact hU) (by exact Bd ht hN3) ?_;refine' ap ?_;refine' aH slot_list_append (by rfl) rfl (by fail "c") ?_;refine' aa (by fail "a") C.g__law_draw ?_;refine' aa (by fail "a") C.g_len ?_;refine bo .dS (jh hN3 hm) ?_;unfold pg;fail "w";refine bt .lst (by rw[List.length_map];omega) ?_;rw[List.length_map];fail "w";refine aJ (TF.up (m:=n+1) (ri C hPk (by exact Cd hp1) (by exact yW hp3) ?_) (by exact s7));delta P e hPk he;fail "w";refine' ⟨by fail "g",?_⟩;refine am (by fail "b") (by rw[List.length_map];exact ET hwn hwl hi2) ?_;fail "f";refine⟨by fail "d",P,ws++[(t,e)],hPk,by rw[List.length_append,hwl];rfl,?_,by rw[List.map_append];rfl⟩;delta p hp;rw[List.mem_append,List.mem_singleton] at hp;rcases hp with hp|rfl
  ·exact hwv p hp
  ·exact⟨m,hm,by show e<m.procs.length;exact xp he⟩
 delta σ';intro z64;injection z64 with P ws hPk hwl hws rfl;rw[List.length_map,List.length_range,hwn1] at hwl;have hw1:1≤ws.length:=by exact ES hwl
 have hw2:ws.length≤2:=by exact ER hwn hwl
 clear hwl hwn hwn1;refine b5 (aC.frz (gd.lst (a:=wi) .here) aR.refl (by fail "q")) ?_
 have hrows:∀t,t<W.length→∃m,W[t]?=some m∧aB (eJ W) (nm t)=some (fE t m).v∧(fE t m).rows.length≤1000:=fun t ht=>by
  have hm:W[t]?=some W[t]:=List.getElem?_eq_getElem ht
  refine⟨_,hm,oe hN3 hm,?_⟩;have h1:=(qd hW hN3).rows (nm t) (gP ht)
  rw[cA hN3 hm] at h1;unfold RO.rows;rw[List.length_map];omega
 refine bq (cR (ηk:=[(".0",.un),("name",.un),("list",.glb),("files",.cel (c+1))]) (by fail "n") (by fail "s") (cB.pure (List.range W.length) (fun t=>V.str (nm t)) (fun t=>eC (fE t (W[t]?.getD ⟨[],[]⟩)).rows) (fun U=>true) ?it1 ?ln1 ?tn1 ?fn1))
 case it1=>
  refine bw (by fail "a") (.pst at1) ?_;refine⟨trivial,?_,rfl⟩;unfold aL;rw[List.map_map];exact .lst
 case ln1=>rw[List.length_range];omega
 case tn1=>
  delta i t ht;have htl:t<W.length:=List.mem_range.mp (List.mem_of_getElem? ht)
  injection (hrows t htl) with m hm hg hrl;fail "w";refine⟨by fail "d",rfl,?_⟩;refine' bA (aa (by fail "a") C.g_list ?_);refine' dq ?_;refine' bw (by fail "a") (.pst at2) ?_;refine bo .dS hg ?_;refine' eB (RO.g_rows _) (gi C) ?_;refine eV .lst (by rw[List.length_map];omega) ?_;delta a;refine⟨_,_,ay.lst .here,?_,rfl⟩;rw[hm];rfl
 delta ba;refine⟨_,by fail "m",?_⟩;rw[bW];show dl _ _ _ _ _
 refine' b5 (aC.frz (gd.lst (a:=ba) .here) aR.refl (by fail "q")) ?_;refine' aa (by fail "a") C.g_link ?_;refine bw (by fail "a") (.pst at2) ?_;refine cL (bA (eW (ηk:=[(".0",.un),("name",.un),("which",.un),("str",.glb)]) (by fail "n") (cB.pure ws pV (fun p=>pA (nm p.1,eE p.2)) (fun U=>true) ?it2 ?ln2 ?tn2 ?fn2)))
 case it2=>
  fail "w";exact⟨trivial,.lst,rfl⟩
 case ln2=>omega
 case tn2=>
  delta i p hp;injection ((hws p (List.mem_of_getElem? hp)).fin hW hN3) with hp1 hp2;injection (qG ⟨p.1,hp1⟩ ⟨p.2,hp2⟩) with l1 l2 l3;have hsz:sizeLine≥100000:=by rw[sizeLine_eq];decide
  show TA _ _ (.tup [.str (nm p.1),.int (p.2:Nat)]) _ _ _
  fail "w";refine' ⟨by fail "d",rfl,?_⟩;refine' aa (by fail "a") C.g_str ?_;refine' qp (by exact B6 (b:=3) (by assumption) (by decide)) ?_;refine' iJ ?_ (pR hp2);refine⟨by fail "g",?_⟩;exact⟨rfl,rfl⟩
 delta ca2;refine⟨_,_,ay.lst .here,?_⟩;rw[bW];fail "w";have hwant:ws.map (fun p=>pA (nm p.1,eE p.2))=(fM ws).map pA:=by unfold fM;rw[List.map_map];rfl
 rw[hwant];have hms:=Kx hW hN3 hws
 have hmk:=zx hW hN3 hws "All"
 have hwfs:wD (eu (ug W (aP W ws) ws "All") (B0 W (aF W (aP W ws)) (aP W ws))):=by
  rcases xH hW hN3 hws (n:="All") with h|h
  ·exact h
  ·omega
 refine aJ (TF.up (m:=n+12) (CD C (F:=aV W) (lF hW hN3) (qd hW hN3) (wanted:=fM ws) (nm:="All") ?lw ?lz ?lf ?_) (by exact Ca))
 case lw=>
  delta w hw;injection (List.mem_map.mp hw) with p hp rfl;have hpv:=hws p hp
  injection (hpv.fin hW hN3) with hp1 hp2;injection (qG ⟨p.1,hp1⟩ ⟨p.2,hp2⟩) with l1 l2 l3;injection (id hpv) with m hm he;refine⟨gP (PV.rk hN3 hpv).2,⟨ae m.procs p.2,?_⟩,?_⟩
  ·dsimp only;rw[cA hN3 hm];exact sL hW hN3 hm he
  ·dsimp only at l1 l2 ⊢;exact EP l1 l2
 case lz=>unfold fM;rw[List.length_map];omega
 case lf=>rw[hms,hmk];exact hwfs
 delta J' hsh;rw[hms,hmk] at hsh;clear hms hmk hwfs hwant;injection (pE hW hN3 hws) with T hin;have htlt:=uk hW hN3 hws
 have hnts:=kG hW hN3 hws
 have hdl:=CB hW hN3 T htlt
 have hwk:=fun da=>wF hW hN3 T htlt (ws:=ws) (n:="All") da
 injection (wl hW hN3 hws hsh) with L hJ O' hLn hLm hL9 hLr;have hmarks:=wm (W:=W) (ts:=aP W ws) (dat:=aF W (aP W ws)) (X:=ug W (aP W ws) ws "All") (L:=L)
 have hmaps:=fun i a h hb=>xL O' (i:=i) (a:=a) h hb
 have hrunp:=fun ca da hd hm p hp=>qL hW hN3 O' hLm (ca:=ca) (da:=da) hd hm (p:=p) hp
 have hrunb:=fun ca da hd hm=>qM hW hN3 O' hLm T.few (ca:=ca) (da:=da) hd hm
 have hJn:J'.name="All":=by rw[hJ];rfl
 have hJz:J'.ar.length≤200:=by
  rw[hJ,dT];have h1:=vu hW T (dat:=aF W (aP W ws))
  have h2:=mP (l:=L.map (ag W (aF W (aP W ws)))++[af (aP W ws)]) (f:=fun b=>b.rows.length) (k:=11) fun b hb=>(h1 b (dU.mpr (va hLm b hb))).1
  rw[List.length_append,List.length_map,List.length_singleton] at h2;unfold au;exact EO h2 hL9
 have hJw:J'.words.length≤10:=by
  rw[hJ];show((aP W ws).map _).length≤10
  rw[List.length_map];have:=T.few
  omega
 have hJc:J'.cmds=(ip ws).map fun c=>(c.1,az (L.map (ag W (aF W (aP W ws)))++[af (aP W ws)]) c.2):=by rw[hJ];rfl
 rw[←hJ] at hmarks hmaps hrunp hrunb;fail "w";fail "i";fail "w";refine' bG ?_;refine⟨by fail "g",?_⟩;refine' qv .lst .lst ?_;refine' ak rfl ?_;fail "i";fail "w";refine' bG ?_;refine⟨by fail "g",?_⟩;refine' qv .lst .lst ?_;refine' ak rfl ?_;fail "i";fail "w";refine' ak (by rw[hJn];nofun) ?_;refine bA (eW (ηk:=[(".0",.un),("name",.un),("list",.glb),("files",.cel (c+1))]) (by fail "n") (cB.pure (List.range W.length) (fun t=>V.str (nm t)) (fun t=>eC (fE t (W[t]?.getD ⟨[],[]⟩)).rows) (fun U=>true) ?it3 ?ln3 ?tn3 ?fn3))
 case it3=>
  refine bw (by fail "a") (.pst at1) ?_;refine⟨trivial,?_,rfl⟩;unfold aL;rw[List.map_map];exact .lst
 case ln3=>rw[List.length_range];omega
 case tn3=>
  delta i t ht;have htl:t<W.length:=List.mem_range.mp (List.mem_of_getElem? ht)
  injection (hrows t htl) with m hm hg hrl;fail "w";refine⟨by fail "d",rfl,?_⟩;refine' bA (aa (by fail "a") C.g_list ?_);refine' dq ?_;refine' bw (by fail "a") (.pst at2) ?_;refine bo .dS hg ?_;refine' eB (RO.g_rows _) (gi C) ?_;refine eV .lst (by rw[List.length_map];omega) ?_;delta a;refine⟨_,_,ay.lst .here,?_,rfl⟩;rw[hm];rfl
 delta bb;refine⟨_,_,ay.lst .here,?_⟩;rw[bW];fail "w";refine' iI .lst .lst (fk (fun t=>.lst (fk zJ _)) _) ?_;fail "f";fail "w";refine' b8 ?_;refine⟨by fail "g",?_⟩;delta ne;fail "w";have O:=lF hW hN3
 have hxs:∀p∈ws,nm p.1∈(aV W).names:=fun p hp=>gP (PV.rk hN3 (hws p hp)).2
 have hrk4:∀x∈(aV W).names,(aV W).rank x<4:=fun x U=>by
  show ix x<4
  unfold ix;split
  ·omega
  ·split<;>omega
 refine' aO (fun i σ'=>σ'=(ne,.lst (((ws.take i).foldl (fun a p=>(aV W).need (nm p.1) a) []).map V.str))::P.st σ0) ?_;refine⟨trivial,_,.lst,by rw[List.take_zero];rfl,?_,?_⟩
 ·delta i v σ' hv;intro z84;first|subst z84|cases z84
  rw[List.getElem?_map,Option.map_eq_some_iff] at hv;injection hv with p hp rfl;have hpm:=List.mem_of_getElem? hp
  have ht:ws.take (i+1)=ws.take i++[p]:=by rw[List.take_add_one,hp];rfl
  have hf:(ws.take i).foldl (fun a p=>(aV W).need (nm p.1) a) []=((ws.take i).map fun p=>nm p.1).foldl (fun a y=>(aV W).need y a) []:=by rw[List.foldl_map]
  obtain⟨h1,h2,-⟩:=kU O (k:=4) (fun x o U=>mq O ((aV W).rank x+1) x o (by omega)) ((ws.take i).map fun p=>nm p.1) [] (fun x hx=>by
   obtain⟨q,hq,rfl⟩:=List.mem_map.mp hx;have:=hxs q (List.mem_of_mem_take hq)
   exact⟨hrk4 _ this,this⟩) (by simp) (by simp)
  rw[←hf] at h1 h2;rw[ht,List.foldl_append,List.foldl_cons,List.foldl_nil];generalize (ws.take i).foldl (fun a p=>(aV W).need (nm p.1) a) []=o at h1 h2;show TA _ _ (.tup [.str (nm p.1),.int (p.2:Nat)]) _ _ _
  fail "w";refine' aa (by fail "a") C.g__law_needed ?_;refine aJ (TF.up (m:=n+4) (rh C O (fun x hx=>?_) 4 (hrk4 _ (hxs p hpm)) (hxs p hpm) h1 h2 ?_) (by exact EN))
  ·injection (d9 hN3 hx) with t m ht3 rfl hm e;refine⟨.lst (m.procs.map pN),?_⟩;rw[jh hN3 hm];unfold pg bz.imp;rw[e];show _=some (V.tup [.lst (((m.imps.map fun i=>(nm i,50+(i:Int))).map (fun U=>U.1)).map V.str),_])
   rw[List.map_map,List.map_map];rfl
  ·fail "f";exact⟨by fail "d",rfl⟩
 delta σ';intro z92;first|subst z92|cases z92
 rw[List.length_map,List.take_length];have hnd0:ws.foldl (fun a p=>(aV W).need (nm p.1) a) []=dR W ws:=by unfold dR;rw[List.foldl_map]
 rw[hnd0,hnts];refine' b5 (aC.frz (gd.lst (a:=ne) .here) aR.refl (by fail "q")) ?_;have hcf:=hE ws [] (by simp)
 have hck:(J'.cmds.map cC).map (fun U=>U.1)=(ip ws).map (fun U=>U.1):=by rw[hJc,List.map_map,List.map_map];rfl
 refine' aa (by fail "a") C.g_sorted ?_;fail "i";fail "w"
 have hclen:((J'.cmds.map cC).map (fun U=>U.1)).length≤2:=by
  rw[hck,List.length_map];have:=hcf.2.1
  simp at this;unfold ip;omega
 refine wL (us:=(J'.cmds.map cC).map (fun U=>U.1)) (fun A B P s x R hA I hx k=>zN .dS (by rw[List.length_map] at hclen;omega) A B P s x R hA I hx fun h' tk vs hk hc=>k h' tk vs hk ⟨_,hc,.refl _⟩) (by exact Ar hclen) ?_;delta u1 s1 hp1 hs1;fail "w";refine tt (by fail "a") (by fail "a") C.g_sorted C.g_set ?_;refine eW (ηk:=[(".0",.un),("name",.un),("which",.un),("str",.glb)]) (by fail "n") (cB.pure ws pV (fun p=>V.str (bM p)) (fun U=>true) ?it4 ?ln4 ?tn4 ?fn4)
 case it4=>
  fail "w";exact⟨trivial,.lst,rfl⟩
 case ln4=>omega
 case tn4=>
  delta i p hp;have hpv:=hws p (List.mem_of_getElem? hp)
  injection (hpv.fin hW hN3) with hp1 hp2;injection (qG ⟨p.1,hp1⟩ ⟨p.2,hp2⟩) with l1 l2 l3;have hsz:sizeLine≥100000:=by rw[sizeLine_eq];decide
  have l4:Str.length "_P" = 2:=by decide
  dsimp only at l1 l3;show TA _ _ (.tup [.str (nm p.1),.int (p.2:Nat)]) _ _ _
  fail "w";refine' ⟨by fail "d",rfl,?_⟩;refine' iJ ?_ (by exact Ai hsz l4 l1);refine' aa (by fail "a") C.g_str ?_;refine' qp (by exact B6 (b:=3) (by assumption) (by decide)) ?_;refine iJ ?_ (by rw[PySem.Str.length_append];exact Ah hsz l4 l1 l3);rw[pD hW hN3 hpv];exact⟨rfl,rfl⟩
 delta cs4;rw[bW];have e4:ws.map (fun p=>V.str (bM p))=(ws.map bM).map V.str:=by rw[List.map_map];rfl
 rw[e4];refine⟨ws.map bM,aM.loc .here,by rw[List.length_map];exact hw2,?_⟩;delta u2 s2 hn2 hm2 hs2
 have hkeys:∀x,x∈(J'.cmds.map cC).map (fun U=>U.1)↔∃p∈ws,x=bM p:=fun x=>by
  rw[hck];have:=hcf.2.2.2 x
  unfold ip;simpa using this
 have hu12:u1=u2:=by
  refine qy hW hN3 (hp1.nodup_iff.mpr (by rw[hck];exact hcf.1)) hn2 (fun x=>?_) (fun x hx=>?_) (by rw[hp1.length_eq];exact hclen) hs1 hs2
  ·rw[hp1.mem_iff,hkeys,hm2,List.mem_map];exact⟨fun⟨p,h1,h2⟩=>⟨p,h1,h2.symm⟩,fun⟨p,h1,h2⟩=>⟨p,h1,h2.symm⟩⟩
  ·obtain⟨p,hp,e⟩:=(hkeys x).mp (hp1.mem_iff.mp hx);exact⟨p,hws p hp,e⟩
 subst hu12;refine' iI (aM.loc (.there (.there .here))) (aM.loc .here) (fk qU _) ?_;refine aw ?_;show dl _ _ _ _ _
 refine' b5 (aC.drop (σ':=P.st σ0) (List.Sublist.cons _ (List.Sublist.cons _ (List.Sublist.cons _ (List.Sublist.refl _))))) ?_;refine' aa (by fail "a") C.g__law_draw ?_;refine aJ (TF.up (m:=n+1) (vo C hPk (by decide) (by decide) ?_) (by exact s7));delta P cv hPk hcv;fail "w";refine' aa (by fail "a") C.g__law_draw ?_;refine aJ (TF.up (m:=n+1) (vo C hPk (by decide) (by decide) ?_) (by exact s7));delta P dv hPk hdv;refine' gA ?_ (IntMulOk.of_left (by decide +kernel));have hca1:(1:Int)≤1+(cv:Nat):=by exact EL
 have hca2:(1:Int)+(cv:Nat)≤100:=by exact EK hcv
 have hda1:(0:Int)≤64+16*(dv:Nat):=by exact EJ
 have hda2:(64:Int)+16*(dv:Nat)≤1000:=by exact EI hdv
 generalize (1:Int)+(cv:Nat)=ca at hca1 hca2;generalize (64:Int)+16*(dv:Nat)=da at hda1 hda2;have hdat:∀t∈aP W ws,da+aF W (aP W ws) t<90000:=fun t ht=>by have:=hdl t ht;exact EH this hda2
 refine' b8 ?_;refine⟨by fail "g",?_⟩;delta du;fail "w";have hpv0:∀t∈aP W ws,PV W (t,0):=fun t ht=>lL.mpr (T.pos t ht)
 have htl3:=T.few
 refine' aO (fun i σ'=>σ'=(du,.lst ((((aP W ws).take i).flatMap fun t=>f8 W (t,0)).map V.int))::P.st σ0) ?_;refine⟨trivial,_,.lst,by rw[List.take_zero];rfl,?_,?_⟩
 ·delta i v σ' hv;intro z94;first|subst z94|cases z94
  rw[List.getElem?_map,List.getElem?_map,Option.map_map,Option.map_eq_some_iff] at hv;injection hv with t ht rfl;have htm:=List.mem_of_getElem? ht
  have hpv:=hpv0 t htm
  have hrk:=(PV.rk hN3 hpv).1
  have htk:(aP W ws).take (i+1)=(aP W ws).take i++[t]:=by rw[List.take_add_one,ht];rfl
  have hl1:=j8 (l:=(aP W ws).take i) (f:=fun t=>f8 W (t,0)) (k:=10000) fun u hu=>mF hW (PV.rk hN3 (hpv0 u (List.mem_of_mem_take hu))).1
  have hl2:=List.length_take_le' i (aP W ws)
  have hl3:=mF hW hrk
  rw[htk,List.flatMap_append];generalize ((aP W ws).take i).flatMap (fun t=>f8 W (t,0))=acc at hl1;show TA _ _ (.str (nm t)) _ _ _
  fail "w";refine' aa (by fail "a") C.g__law_told ?_;refine' bw (by fail "a") (.there (.pst at1)) ?_;refine aJ (TF.up (m:=n+12) (oq C hW hN3 12 (p:=(t,0)) (acc:=acc) (by exact yU hrk) hpv (by exact EG hl1 hl3 hl2 htl3) ?_) (by exact Ca));fail "f";refine⟨by fail "d",?_⟩;simp
 delta σ';intro z97;first|subst z97|cases z97
 rw[List.length_map,List.length_map,List.take_length];fail "w";injection (hrunb ca da hdat (hwk da)) with kb sb rb hkb heb hsb hhb;refine' aa (by fail "a") C.g__law_ran ?_;fail "i";fail "w";refine' aJ (TF.up (m:=n+1) (qi C (by omega) (by omega) hca1 (by exact Ap hca2) rb hkb heb hsb ?_) (by exact s7));rw[hhb];refine' iI .lst (aM.loc .here) (fk ik _) ?_;refine aw ?_;show dl _ _ _ _ _
 refine b5 (aC.trans (aC.weak (η':=((("script" :Str),Sl.un)::(("pool" :Str),Sl.un)::(("names_of" :Str),Sl.cel c)::(("world" :Str),Sl.val (.dS (oN W)))::(("files" :Str),Sl.cel (c+1))::(("wishes" :Str),Sl.val (.lst (ws.map pV)))::(("_" :Str),Sl.un)::(("name" :Str),Sl.un)::(("before" :Str),Sl.un)::(("which" :Str),Sl.un)::(("made" :Str),Sl.val J'.v)::(("needed_ones" :Str),Sl.val (.lst (((aP W ws).map nm).map V.str)))::(("code_at" :Str),Sl.val (.int ca))::(("data_at" :Str),Sl.val (.int da))::(("due" :Str),Sl.un)::(("met" :Str),Sl.un)::(("ahead" :Str),Sl.un)::(("one" :Str),Sl.un)::(("marks" :Str),Sl.un)::(("spot" :Str),Sl.un)::(("above" :Str),Sl.un)::(("offsets" :Str),Sl.un)::(("_law_pool" :Str),Sl.glb)::(("_law_world" :Str),Sl.glb)::(("_law_files" :Str),Sl.glb)::(("range" :Str),Sl.glb)::(("_law_draw" :Str),Sl.glb)::(("len" :Str),Sl.glb)::(("link" :Str),Sl.glb)::(("_law_needed" :Str),Sl.glb)::(("sorted" :Str),Sl.glb)::(("set" :Str),Sl.glb)::(("_law_told" :Str),Sl.glb)::(("_law_ran" :Str),Sl.glb)::(("str" :Str),Sl.glb)::([]:aI))) (by fail "d")) (aC.drop (σ':=P.st σ0) (List.Sublist.cons _ (List.Sublist.refl _)))) ?_;clear hrunb hhb heb hsb rb;fail "w";refine' aO (fun i σ'=>σ'=P.st σ0) ?_;refine⟨trivial,_,.lst,rfl,?_,?_⟩
 ·delta i v σ' hv;intro z103;first|subst z103|cases z103
  rw[List.getElem?_map,Option.map_eq_some_iff] at hv;injection hv with p hp rfl;have hpm:=List.mem_of_getElem? hp
  have hpv:=hws p hpm
  have hrk:=(PV.rk hN3 hpv).1
  have hl3:=mF hW hrk
  injection (hpv.fin hW hN3) with hp1 hp2;injection (qG ⟨p.1,hp1⟩ ⟨p.2,hp2⟩) with l1 l2 l3;have hsz:sizeLine≥100000:=by rw[sizeLine_eq];decide
  have l4:Str.length "_P" = 2:=by decide
  dsimp only at l1 l3;have hpL:p∈L:=(hLr p).mpr (.root (List.mem_append.mpr (.inr hpm)))
  injection (hrunp ca da hdat (hwk da) p hpL) with kp sp rp hkp hep hspp hhp;show TA _ _ (.tup [.str (nm p.1),.int (p.2:Nat)]) _ _ _
  fail "w";refine' aa (by fail "a") C.g__law_told ?_;refine' bw (by fail "a") (.pst at1) ?_;refine' b8 ?_;refine⟨by fail "g",?_⟩;delta d2;fail "w";refine' aJ (TF.up (m:=n+12) (oq C hW hN3 12 (p:=p) (acc:=[]) (by exact yU hrk) hpv (by simp;omega) ?_) (by exact Ca));refine' aa (by fail "a") C.g__law_ran ?_;fail "i";fail "w";refine' iJ ?_ (by exact Ai hsz l4 l1);refine' aa (by fail "a") C.g_str ?_;refine' qp (by exact B6 (b:=3) (by assumption) (by decide)) ?_;refine iJ ?_ (by rw[PySem.Str.length_append];exact Ah hsz l4 l1 l3);rw[pD hW hN3 hpv];refine bo (v:=.int (az (L.map (ag W (aF W (aP W ws)))++[af (aP W ws)]) (some p):Nat)) .dS ?_ ?_
  ·refine cS (by rw[hck];exact hcf.1) ?_;have hk1:=(hcf.2.2.2 (bM p)).mpr (.inr ⟨p,hpm,rfl⟩)
   injection (List.mem_map.mp hk1) with c1 hc1 e1;injection (io hW hN3 hws hc1) with p' hp' rfl;have hpp:p'=p:=pC hW hN3 (hws p' hp') hpv e1
   subst hpp;rw[hJc,List.map_map];exact List.mem_map.mpr ⟨_,hc1,rfl⟩
  fail "w";refine' aJ (TF.up (m:=n+1) (qi C (by omega) (by omega) hca1 (by exact Ap hca2) rp hkp hep hspp ?_) (by exact s7));rw[hhp,List.nil_append];refine' iI .lst (aM.loc .here) (fk ik _) ?_;refine aw ?_;show dl _ _ _ _ _
  refine b5 (aC.drop (σ':=P.st σ0) (List.Sublist.cons _ (List.Sublist.refl _))) ?_;fail "f";exact⟨by fail "d",rfl⟩
 delta σ';intro z115;first|subst z115|cases z115
 clear hrunp;fail "w";refine' b8 ?_;refine⟨by fail "g",?_⟩;delta me;fail "w";refine eW (ηk:=[(".0",.un),("name",.un)]) (by fail "n") (cB.pure (aP W ws) (fun t=>V.str (nm t)) (fun t=>pV (t,0)) (fun U=>true) ?it5 ?ln5 ?tn5 ?fn5)
 case it5=>
  fail "w";refine⟨trivial,?_,rfl⟩;have e5:((aP W ws).map nm).map V.str=(aP W ws).map fun t=>V.str (nm t):=by rw[List.map_map];rfl
  rw[e5];exact .lst
 case ln5=>omega
 case tn5=>
  delta i t ht;fail "w";refine' ⟨by fail "d",rfl,?_⟩;refine⟨by fail "g",?_⟩;exact⟨rfl,rfl⟩
 delta ca5;rw[bW];fail "w";refine yO (aM.loc .here) .lst (by rw[List.length_map,List.length_map];exact EF htl3 hw2) ?_;delta ah;have e6:((aP W ws).map fun t=>pV (t,0))++ws.map pV=((aP W ws).map (fun t=>(t,0))++ws).map pV:=by rw[List.map_append,List.map_map];rfl
 rw[e6];refine dr (by fail "m") ?_;show dl _ _ _ _ _
 generalize hroots:(aP W ws).map (fun t=>(t,0))++ws=roots at hLr;have hrl:roots.length≤5:=by rw[←hroots,List.length_append,List.length_map];exact EE htl3 hw2
 refine b5 (aC.drop (σ':=(ah,.lst (roots.map pV))::(me,.lst [])::P.st σ0) (List.Sublist.cons_cons _ (List.Sublist.cons _ (List.Sublist.refl _)))) ?_;refine bq ?_;have hun:=wH hW hN3
 have hPRv:∀p,PR W roots p→PV W p:=fun p hp=>(hLm p ((hLr p).mpr hp)).2
 refine iF (fun m η' σ'=>∃met ahead:List (Nat×Nat),met.Nodup∧(∀p∈met,PR W roots p)∧(∀p∈ahead,PR W roots p)∧(∀p∈roots,p∈met∨p∈ahead)∧(∀p∈met,∀d∈aq W p,d.to∈met∨d.to∈ahead)∧
  m=3*(9-met.length)+ahead.length∧m≤40∧η'=((("script" :Str),Sl.un)::(("pool" :Str),Sl.un)::(("names_of" :Str),Sl.cel c)::(("world" :Str),Sl.val (.dS (oN W)))::(("files" :Str),Sl.cel (c+1))::(("wishes" :Str),Sl.val (.lst (ws.map pV)))::(("_" :Str),Sl.un)::(("name" :Str),Sl.un)::(("before" :Str),Sl.un)::(("which" :Str),Sl.un)::(("made" :Str),Sl.val J'.v)::(("needed_ones" :Str),Sl.val (.lst (((aP W ws).map nm).map V.str)))::(("code_at" :Str),Sl.val (.int ca))::(("data_at" :Str),Sl.val (.int da))::(("due" :Str),Sl.un)::(("met" :Str),Sl.val (.loc me))::(("ahead" :Str),Sl.val (.loc ah))::(("one" :Str),Sl.un)::(("marks" :Str),Sl.un)::(("spot" :Str),Sl.un)::(("above" :Str),Sl.un)::(("offsets" :Str),Sl.un)::(("_law_pool" :Str),Sl.glb)::(("_law_world" :Str),Sl.glb)::(("_law_files" :Str),Sl.glb)::(("range" :Str),Sl.glb)::(("_law_draw" :Str),Sl.glb)::(("len" :Str),Sl.glb)::(("link" :Str),Sl.glb)::(("_law_needed" :Str),Sl.glb)::(("sorted" :Str),Sl.glb)::(("set" :Str),Sl.glb)::(("_law_told" :Str),Sl.glb)::(("_law_ran" :Str),Sl.glb)::(("str" :Str),Sl.glb)::([]:aI))∧σ'=(ah,.lst (ahead.map pV))::(me,.lst (met.map pV))::P.st σ0) (3*(9-0)+roots.length)
  ⟨[],roots,.nil,by simp,fun p hp=>.root hp,fun p hp=>.inr hp,by simp,rfl,by exact ED hrl,rfl,rfl⟩ ?_
 delta m η' σ';intro z116;injection z116 with met ahead hm1 hm2 hm3 hm4 hm5 rfl hm6 rfl rfl
 have hmet9:met.length≤9:=by
  have:=ei hm1 fun p hp=>su (hPRv p (hm2 p hp))
  omega
 fail "w";refine' bG ?_;refine⟨by fail "g",?_⟩;refine' qv (aM.loc .here) .lst ?_
 have hcat:ahead=[]∨∃l x,ahead=l++[x]:=by
  rcases List.eq_nil_or_concat ahead with e|⟨w,i,e⟩
  ·exact .inl e
  ·exact .inr ⟨w,i,by simpa using e⟩
 rcases hcat with rfl|hcat
 ·refine ak rfl ?_
  have hmet:∀p,p∈met↔PR W roots p:=fun p=>by
   refine⟨hm2 p,fun h=>?_⟩;induction h with
   | root h=>exact(hm4 _ h).resolve_right (by simp)
   | deed _ hd ih=>exact(hm5 _ ih _ hd).resolve_right (by simp)
  have hLmet:L.Perm met:=(List.perm_ext_iff_of_nodup hLn hm1).mpr fun p=>by rw[hLr,hmet]
  show dl _ _ _ _ _
  refine b5 (aC.frz (gd.lst (a:=me) (.there .here)) aR.refl (by fail "q")) ?_;refine bq (cR (ηk:=[(".0",.un),("head",.un),("one",.un),("two",.un),("three",.un)]) (by fail "n") (by fail "s") (cB.pure J'.rows aN.v (fun r=>V.int ((cN r).getD 0)) (fun r=>(cN r).isSome) ?it7 ?ln7 ?tn7 ?fn7))
  case it7=>
   fail "i";exact⟨trivial,.lst,rfl⟩
  case ln7=>rw[jq];omega
  case tn7=>
   delta i r hr;show TA _ _ (.tup [.str r.op,r.one,.int r.two,.int r.three]) _ _ _
   cases r with
   | reg op a b k=>
    delta op a b k at *;dsimp only[aN.one,aN.two,aN.three];cases op with
    | movi=>
     fail "w";refine⟨by fail "d",?_⟩;show TB _ _ _ _ _
     fail "w";refine' aG (by nofun) ?_;by_cases ha:a=0
     ·refine aG (by rw[beq_iff_eq];exact ha) ?_;refine' eh ⟨by simp[cN,ha],?_⟩;exact⟨by simp[cN,ha],rfl⟩
     ·refine ak (by rw[beq_eq_false_iff_ne];exact ha) ?_;exact⟨by simp[cN,ha],rfl⟩
    | _=>
     fail "w";refine⟨by fail "d",?_⟩;show TB _ _ _ _ _
     fail "w";refine ak (by nofun) ?_;exact⟨rfl,rfl⟩
   | _=>
    dsimp only[aN.one,aN.two,aN.three];fail "w";refine⟨by fail "d",?_⟩;show TB _ _ _ _ _
    fail "w";refine ak (by nofun) ?_;exact⟨rfl,rfl⟩
  delta mk;refine⟨_,by fail "m",?_⟩;rw[kK,hmarks];fail "w";have hz9:(L.map gn).length<64:=by rw[List.length_map];exact Ao hL9
  refine' aa (by fail "a") C.g_sorted ?_;refine dH (us:=L.map gn) (gW (aM.loc .here) (by rw[List.length_map];exact xr hz9) (fun B vs h=>h.ints)) (by exact xr hz9) ?_;delta v1 s1 hpe1 hso1;fail "w";refine' aa (by fail "a") C.g_sorted ?_;refine eW (ηk:=[(".0",.un),("name",.un),("which",.un),("names_of",.cel c)]) (by fail "n") (cB.pure met pV (fun p=>V.int (gn p)) (fun U=>true) ?it8 ?ln8 ?tn8 ?fn8)
  case it8=>
   fail "w";exact⟨trivial,.lst,rfl⟩
  case ln8=>omega
  case tn8=>
   delta i p hp;have hpv:=hPRv p (hm2 p (List.mem_of_getElem? hp))
   injection (hpv.fin hW hN3) with hp1 hp2;have hpl:=(PV.rk hN3 hpv).2
   show TA _ _ (.tup [.str (nm p.1),.int (p.2:Nat)]) _ _ _
   fail "w";refine' ⟨by fail "d",rfl,?_⟩;refine ap ?_;refine bw (by fail "a") (.there (.there (.there (.pst at1)))) ?_;refine' aH PySem.F.slot_list_index (by rfl) rfl .lst ?_;refine kz .lst (by simp[aL];omega) (iS hpl) (iR hN3 hpl) ?_;refine' gA ?_ (IntMulOk.of_left (by decide +kernel));exact⟨rfl,rfl⟩
  delta c8;rw[bW];have e8:met.map (fun p=>V.int (gn p))=(met.map gn).map V.int:=by rw[List.map_map];rfl
  rw[e8];fail "w";refine dH (us:=met.map gn) (gW (aM.loc .here) (by rw[List.length_map,List.length_map];omega) (fun B vs h=>h.ints)) (by rw[List.length_map];omega) ?_;delta v2 s2 hpe2 hso2;have hv12:v1=v2:=rK (hpe1.trans ((hLmet.map gn).trans hpe2.symm)) (hso1 hz9) (hso2 (by rw[List.length_map];exact Ao hmet9))
  subst hv12;refine' iI (aM.loc (.there (.there .here))) (aM.loc .here) (fk ik _) ?_;refine aw ?_;show dl _ _ _ _ _
  refine b5 (aC.drop (σ':=P.st σ0) (List.Sublist.cons _ (List.Sublist.cons _ (List.Sublist.cons _ (List.Sublist.cons _ (List.Sublist.cons _ (List.Sublist.refl _))))))) ?_;have hJr:J'.rows.length≤200:=by rw[jq];exact hJz
  fail "w";refine aO (fun i σ'=>σ'=P.st σ0) ?_;refine aa (by fail "a") C.g_range ?_;refine' cL (aa (by fail "a") C.g_len ?_);fail "i";fail "w";refine bt .lst (by rw[List.length_map];omega) ?_;rw[List.length_map];fail "w";refine ez ?_;refine⟨⟨by exact EC hJr,by exact z0⟩,_,.rng,rfl,?_,?_⟩
  ·delta i v' σ' hv';intro z129;first|subst z129|cases z129
   rw[List.getElem?_map,Option.map_eq_some_iff] at hv';injection hv' with j hj rfl;rw[Int.toNat_natCast,List.getElem?_eq_some_iff] at hj;injection hj with hj1 hj2;rw[List.length_range] at hj1;rw[List.getElem_range] at hj2;subst hj2;have hja:i<J'.ar.length:=by rwa[jq] at hj1
   have har:J'.ar[i]?=some J'.ar[i]:=List.getElem?_eq_getElem hja
   injection (tT har) with a har;have hri:J'.rows[i]?=some a.ins:=by rw[JO.rows,List.getElem?_map,har];rfl
   fail "w";fail "i";fail "w";refine' al (v:=a.ins.v) .lst (by rw[Int.toNat_natCast,List.getElem?_map,hri];rfl) (by exact hU) (by exact EB hj1 hJr) ?_;by_cases hb:a.ins.isBL=true
   ·refine ak (by show(!(a.ins.op==("BL" :Str)))=false;rw[sk,hb];rfl) ?_;fail "f";refine bq (cR (ηk:=[(".0",.un),("row",.un)]) (by fail "n") (by fail "s") (cB.pure (J'.rows.take i) aN.v aN.v (fun r=>(cN r).isSome) ?it9 ?ln9 ?tn9 ?fn9))
    case it9=>
     refine bA (pH ?_);fail "i";fail "w";refine⟨_,i,rfl,.lst,by rw[List.length_map];omega,?_⟩;delta s9;refine⟨_,_,ay.lst .here,trivial,?_,rfl⟩;rw[←List.map_take];exact .lst
    case ln9=>have:=List.length_take_le' i J'.rows;omega
    case tn9=>
     delta k r hr;fail "w";refine⟨by fail "d",?_⟩;show TB _ _ _ _ _
     cases r with
     | reg op a b k3=>
      delta op a b k3 at *;dsimp only[aN.v,aN.one,aN.two,aN.three];cases op with
      | movi=>
       fail "w";refine' aG (by nofun) ?_;by_cases ha:a=0
       ·refine aG (by rw[beq_iff_eq];exact ha) ?_;refine' eh ⟨by simp[cN,ha],?_⟩;exact⟨rfl,rfl⟩
       ·refine ak (by rw[beq_eq_false_iff_ne];exact ha) ?_;exact⟨by simp[cN,ha],rfl⟩
      | _=>
       fail "w";refine ak (by nofun) ?_;exact⟨rfl,rfl⟩
     | _=>
      fail "w";refine ak (by nofun) ?_;exact⟨rfl,rfl⟩
    delta ab;refine⟨_,by fail "m",?_⟩;show dl _ _ _ _ _
    have hmg:=xD har hb
    have hfin:∀{oa:Addr} {η1:aI} {rest:List Stmt} {Q1:Fl→aI→aj→Prop},True:=fun {_ _ _ _}=>trivial
    rcases hmaps i a har hb with⟨hbi,hmp⟩|hmp
    ·refine bq (eN ?_);refine wS ?_;refine' lm ?_;fail "i";fail "w";refine ek (?_) (fun h=>absurd (by exact EA hbi h) h);intro _;refine' b8 ?_;refine⟨by fail "g",?_⟩;delta oa;fail "w";refine' ap ?_;fail "i";refine' ji PySem.F.slot_dict_get (by rfl) PySem.F.plainAttrs_dict rfl .dI (.inr ⟨_,rfl⟩) ?_;refine rD .dI ?_;rw[hmg,hmp];fail "w";refine' iI .lst (aM.loc .here) .nil ?_;refine aw ?_;show dl _ _ _ _ _
     refine b5 (aC.drop (σ':=P.st σ0) (List.Sublist.cons _ (List.Sublist.cons _ (List.Sublist.refl _)))) ?_;fail "f";exact⟨by fail "d",rfl⟩
    ·injection hmp with hbi p pre hpre hmp hpL;injection (tF hpre) with l9 r9 hl9 hr9;injection (wj hr9) with b9 rfl;rw[hl9,List.map_append,List.map_singleton];have hpv:=(hLm p hpL).2
     have hp2:=(hpv.fin hW hN3).2
     refine bq (eN ?_);refine wS ?_;refine' lm ?_;fail "i";fail "w";refine ek (fun h=>absurd h (by exact Ez h hbi)) (?_);intro _;refine' b8 ?_;refine' qw (aM.loc .here) kP ?_;refine ln ?_ (by decide);refine' gA ?_ (IntMulOk.of_left (by decide +kernel));refine⟨by fail "g",?_⟩;delta oa;fail "w";refine' ap ?_;fail "i";refine' ji PySem.F.slot_dict_get (by rfl) PySem.F.plainAttrs_dict rfl .dI (.inr ⟨_,rfl⟩) ?_;refine rD .dI ?_;rw[hmg,hmp];fail "w";have hmod:gn p%100=((p.2:Nat):Int):=by unfold gn;exact D2 (by assumption)
     rw[show(aN.reg Op.movi 0 b9 (gn p)).three=gn p from rfl,hmod];refine' iI .lst (aM.loc .here) (fk ik [(0:Int)-8-4*((p.2:Nat):Int)]) ?_;refine aw ?_;show dl _ _ _ _ _
     refine b5 (aC.drop (σ':=P.st σ0) (List.Sublist.cons _ (List.Sublist.cons _ (List.Sublist.refl _)))) ?_;fail "f";exact⟨by fail "d",rfl⟩
   ·have hb':a.ins.isBL=false:=by simpa using hb
    refine aG (by show(!(a.ins.op==("BL" :Str)))=true;rw[sk,hb'];rfl) ?_;fail "w";exact⟨by fail "d",rfl⟩
  delta σ';intro z139;first|subst z139|cases z139
  fail "w";refine' aa (by fail "a") C.g_len ?_;fail "i";fail "w";have hml:=sv J'.ar 0
  have hfl:=List.length_filter_le aN.isBL J'.rows
  have hml2:(bi J'.ar 0).length=(J'.rows.filter aN.isBL).length:=hml
  refine' yD .dI (by rw[List.length_map];exact Ey hml2 hfl hJr) ?_;refine' aa (by fail "a") C.g_len ?_;refine eW (ηk:=[(".0",.un),("row",.un)]) (by fail "n") (cB.pure J'.rows aN.v aN.v aN.isBL ?it0 ?ln0 ?tn0 ?fn0)
  case it0=>
   fail "i";exact⟨trivial,.lst,rfl⟩
  case ln0=>omega
  case tn0=>
   delta k r hr;fail "w";refine⟨by fail "d",?_⟩;show TB _ _ _ _ _
   fail "w";rw[sk];refine⟨rfl,?_⟩;cases hb:r.isBL with
   | true=>
    fail "w";exact⟨rfl,rfl⟩
   | false=>rfl
  delta c0;fail "w";refine' bt (aM.loc .here) (by rw[List.length_map];omega) ?_;rw[List.length_map,List.length_map,hml2,beq_self_eq_true];exact⟨_,σ,ay.drop (List.Sublist.cons _ (List.Sublist.cons _ (List.Sublist.cons _ hsub0))),q⟩
 ·injection hcat with ahead one rfl;refine aG (by simp) ?_;have hone:=hm3 one (by simp)
  have honev:=hPRv one hone
  fail "w";refine' ap ?_;refine mH PySem.F.slot_list_pop (by rfl) rfl (by fail "c") ?_;simp only[List.length_append,List.length_singleton] at hm6;refine tr (vs:=(ahead++[one]).map pV) (v:=.tup [.str (nm one.1),.int (one.2:Nat)]) (by simp;rfl) (by fail "b") (by simp;exact Ex hm6) ?_;rw[List.map_append,List.map_singleton,List.dropLast_concat];fail "w";refine' ux (Lq one) (aM.loc (.there .here)) Cy ?_;rw[vh hN3 honev fun q hq=>hPRv q (hm2 q hq)];by_cases hin:one∈met
  ·rw[decide_eq_true hin];fail "w";refine aw ?_;show dl _ _ _ _ _
   refine bN (η':=((("script" :Str),Sl.un)::(("pool" :Str),Sl.un)::(("names_of" :Str),Sl.cel c)::(("world" :Str),Sl.val (.dS (oN W)))::(("files" :Str),Sl.cel (c+1))::(("wishes" :Str),Sl.val (.lst (ws.map pV)))::(("_" :Str),Sl.un)::(("name" :Str),Sl.un)::(("before" :Str),Sl.un)::(("which" :Str),Sl.un)::(("made" :Str),Sl.val J'.v)::(("needed_ones" :Str),Sl.val (.lst (((aP W ws).map nm).map V.str)))::(("code_at" :Str),Sl.val (.int ca))::(("data_at" :Str),Sl.val (.int da))::(("due" :Str),Sl.un)::(("met" :Str),Sl.val (.loc me))::(("ahead" :Str),Sl.val (.loc ah))::(("one" :Str),Sl.un)::(("marks" :Str),Sl.un)::(("spot" :Str),Sl.un)::(("above" :Str),Sl.un)::(("offsets" :Str),Sl.un)::(("_law_pool" :Str),Sl.glb)::(("_law_world" :Str),Sl.glb)::(("_law_files" :Str),Sl.glb)::(("range" :Str),Sl.glb)::(("_law_draw" :Str),Sl.glb)::(("len" :Str),Sl.glb)::(("link" :Str),Sl.glb)::(("_law_needed" :Str),Sl.glb)::(("sorted" :Str),Sl.glb)::(("set" :Str),Sl.glb)::(("_law_told" :Str),Sl.glb)::(("_law_ran" :Str),Sl.glb)::(("str" :Str),Sl.glb)::([]:aI))) (aC.weak (by fail "d")) ?_;refine⟨_,?_,met,ahead,hm1,hm2,fun p hp=>hm3 p (by simp[hp]),fun p hp=>?_,fun p hp d hd=>?_,rfl,by exact Ew hm6,rfl,rfl⟩
   ·simp only[List.length_append,List.length_singleton];omega
   ·rcases hm4 p hp with h|h
    ·exact .inl h
    ·rw[List.mem_append,List.mem_singleton] at h;rcases h with h|rfl
     ·exact .inr h
     ·exact .inl hin
   ·rcases hm5 p hp d hd with h|h
    ·exact .inl h
    ·rw[List.mem_append,List.mem_singleton] at h;rcases h with h|h
     ·exact .inr h
     ·rw[h];exact .inl hin
  ·rw[decide_eq_false hin];fail "w";refine' ap ?_;refine' aH slot_list_append (by rfl) rfl (aM.loc (.there .here)) ?_;refine' am (.there .here) (by rw[List.length_map];omega) ?_;refine lk (by fail "a") ?_;injection (id honev) with m hm he;have hds:m.procs[one.2]?=some m.procs[one.2]:=List.getElem?_eq_getElem he
   injection (tT hds) with ds hds;have hdd:aq W one=ds:=by unfold aq;rw[hm];dsimp only;rw[hds];rfl
   have hdf:=gU hW one
   rw[hdd] at hdf;have hdl2:ds.length≤2:=by split at hdf<;>omega
   refine eW (ηk:=[(".0",.un),("kind",.un),("other",.un),("which",.un)]) (by fail "n") (cB.pure ds m7 (fun d=>pV d.to) (fun U=>true) ?it6 ?ln6 ?tn6 ?fn6)
   case it6=>
    fail "w";refine bo .dS (jh hN3 hm) ?_;unfold pg;fail "w";refine al (v:=.lst (ds.map m7)) .lst (by rw[Int.toNat_natCast,List.getElem?_map,hds];rfl) (by exact hU) (by have:=(honev.fin hW hN3).2;exact Ev this) ?_;exact⟨trivial,.lst,rfl⟩
   case ln6=>omega
   case tn6=>
    delta i d hd;show TA _ _ (.tup [.str d.k.str,.str (nm d.m),.int (d.w:Nat)]) _ _ _
    fail "w";refine' ⟨by fail "d",rfl,?_⟩;refine⟨by fail "g",?_⟩;exact⟨rfl,rfl⟩
   delta b6;rw[bW];refine i6 (.there .here) (aM.loc .here) ?_ (by rw[List.length_map,List.length_map];exact Eu hm6 hdl2);refine⟨_,by fail "m",?_⟩;show dl _ _ _ _ _
   refine aw ?_;show dl _ _ _ _ _
   have hlm:(met++[one]).length≤9:=by
    have hn:(met++[one]).Nodup:=by
     rw[List.nodup_append];exact⟨hm1,by simp,fun a ha b hb e=>by rw[List.mem_singleton] at hb;subst hb;subst e;exact hin ha⟩
    have:=ei hn fun p hp=>su (hPRv p (by
     rw[List.mem_append,List.mem_singleton] at hp;rcases hp with hp|rfl
     ·exact hm2 p hp
     ·exact hone))
    omega
   rw[List.length_append,List.length_singleton] at hlm;refine bN (η':=((("script" :Str),Sl.un)::(("pool" :Str),Sl.un)::(("names_of" :Str),Sl.cel c)::(("world" :Str),Sl.val (.dS (oN W)))::(("files" :Str),Sl.cel (c+1))::(("wishes" :Str),Sl.val (.lst (ws.map pV)))::(("_" :Str),Sl.un)::(("name" :Str),Sl.un)::(("before" :Str),Sl.un)::(("which" :Str),Sl.un)::(("made" :Str),Sl.val J'.v)::(("needed_ones" :Str),Sl.val (.lst (((aP W ws).map nm).map V.str)))::(("code_at" :Str),Sl.val (.int ca))::(("data_at" :Str),Sl.val (.int da))::(("due" :Str),Sl.un)::(("met" :Str),Sl.val (.loc me))::(("ahead" :Str),Sl.val (.loc ah))::(("one" :Str),Sl.un)::(("marks" :Str),Sl.un)::(("spot" :Str),Sl.un)::(("above" :Str),Sl.un)::(("offsets" :Str),Sl.un)::(("_law_pool" :Str),Sl.glb)::(("_law_world" :Str),Sl.glb)::(("_law_files" :Str),Sl.glb)::(("range" :Str),Sl.glb)::(("_law_draw" :Str),Sl.glb)::(("len" :Str),Sl.glb)::(("link" :Str),Sl.glb)::(("_law_needed" :Str),Sl.glb)::(("sorted" :Str),Sl.glb)::(("set" :Str),Sl.glb)::(("_law_told" :Str),Sl.glb)::(("_law_ran" :Str),Sl.glb)::(("str" :Str),Sl.glb)::([]:aI))) (aC.trans (aC.weak (by fail "d")) (aC.drop (List.Sublist.cons _ (List.Sublist.refl _)))) ?_;refine⟨_,?_,met++[one],ahead++ds.map bg.to,?_,fun p hp=>?_,fun p hp=>?_,fun p hp=>?_,fun p hp d hd=>?_,rfl,?_,rfl,?_⟩
   ·simp only[List.length_append,List.length_singleton,List.length_map];exact Et hlm hmet9 hdl2
   ·rw[List.nodup_append];exact⟨hm1,by simp,fun a ha b hb e=>by rw[List.mem_singleton] at hb;subst hb;subst e;exact hin ha⟩
   ·rw[List.mem_append,List.mem_singleton] at hp;rcases hp with hp|rfl
    ·exact hm2 p hp
    ·exact hone
   ·rw[List.mem_append] at hp;rcases hp with hp|hp
    ·exact hm3 p (by simp[hp])
    ·injection (List.mem_map.mp hp) with d hd rfl;exact .deed hone (by rw[hdd];exact hd)
   ·rcases hm4 p hp with h|h
    ·exact .inl (by simp[h])
    ·rw[List.mem_append,List.mem_singleton] at h;rcases h with h|rfl
     ·exact .inr (by simp[h])
     ·exact .inl (by simp)
   ·rw[List.mem_append,List.mem_singleton] at hp;rcases hp with hp|rfl
    ·rcases hm5 p hp d hd with h|h
     ·exact .inl (by simp[h])
     ·rw[List.mem_append,List.mem_singleton] at h;rcases h with h|h
      ·exact .inr (by simp[h])
      ·exact .inl (by simp[h])
    ·rw[hdd] at hd;exact .inr (List.mem_append.mpr (.inr (List.mem_map_of_mem hd)))
   ·simp only[List.length_append,List.length_singleton,List.length_map];exact Es hm6 hlm hmet9 hdl2
   ·have e7:ds.map (fun d=>pV d.to)=(ds.map bg.to).map pV:=by rw[List.map_map];rfl
    rw[e7,List.map_append,List.map_append];rfl
end
def uP (K:Frag) (x:Str):Option Value:=match K.lookup 3 with
 | some ⟨_,_,.dict es _,_⟩=>nsFind es x
 | _=>none
def zB (K:Frag):Bool:=match K.lookup 3 with
 | some ⟨_,_,.dict _ _,_⟩=>true
 | _=>false
set_option tactic.hygienic true in
theorem qI {K:Frag} {h:Heap} {mg:Str→Option Value} (k:K.In h) (k3:zB K=true) (g:h.Ns mainGlobals mg) {x:Str} {r:Option Value} (e:uP K x=r):mg x=r:=by
 obtain⟨o,es,ep,ho,ku,hk,hf⟩:=g;rw[←hf x];unfold uP at e;unfold zB at k3;split at k3
 ·rename_i c d es' ep' sl hl;rw[hl]at e;have:=k 3 _ hl
  rw[show h.get? 3=some o from ho]at this;cases this;cases ku;exact e
 ·cases k3
theorem CC (hK:S.K=hp.heap_1 S.w.params) (hb:∀x:Str,x ≠ "__name__"→S.mb x=bootBuiltins x):kq:=by
 have kin:(hp.heap_1 S.w.params).In S.h1:=hK▸S.kin
 have k3:zB (hp.heap_1 S.w.params)=true:=by kernel_rfl
 have G:∀{x:Str} {v:Value},uP (hp.heap_1 S.w.params) x=some v→S.glob x v:=fun e=>.inl (qI kin k3 S.ng e)
 have Bt:∀{x:Str} {v:Value},uP (hp.heap_1 S.w.params) x=none→x ≠ "__name__"→bootBuiltins x=some v→S.glob x v:=fun e h1 h2=>.inr ⟨qI kin k3 S.ng e,(hb _ h1).trans h2⟩
 have KK:∀{v:Value},aA (hp.heap_1 S.w.params) v=true→aA S.K v=true:=fun e=>by rw[hK];exact e
 refine⟨hK,⟨_,G (x:="GRAIN") (v:=.int 16 544) (by nofun)⟩,⟨_,G (x:="WORDS") (v:=.int 4294967296 546) (by nofun)⟩,?_,?_,?_,?_,?_,?_,?_,?_,?_,?_,?_,?_,?_,?_,?_,?_,?_,?_,?_,?_,?_,?_,?_,?_,?_,?_,?_,?_,?_,?_,?_,?_,?_,?_,?_,?_,?_,?_,?_,?_,?_,?_,?_,?_,?_,?_⟩<;>first|exact⟨Bt (by nofun) (by decide) (by nofun),rfl⟩|exact⟨G (by nofun),KK (by nofun)⟩
theorem KD {prog:Program} {w:World} {B:aS}:∀{vs:List Value} {us:List Int},IntsAre vs us→cf B (us.map V.int) vs:=cf.ofInts
theorem KG (g:oK S):oM S:=by
 intro s l vs us R hs hg ho hl hi hu k;have C:kq:=CC g.1 g.2
 have I:aK s.heap.get? (fun U=>none) [] s:=⟨fun U U e=>by erw[hs];exact e,fun U U e=>e,fun U U e=>(by cases e),fun U U e=>(by cases e),fun p hp=>(by cases hp),(by simp),hg,ho⟩
 have hA:iD callerA (0+16):=⟨rfl,by decide,by decide⟩
 have T:TL (0+16) (fun xs=>PySem.call (.ref 348) xs) [.lst (us.map V.int)] [] (fun v U=>v=.bool true):=aJ (KR C hu rfl)
 refine T callerA _ _ s [.ref l] R hA I (.cons (.lst (hs▸hl) (by simpa using cf.ofInts hi)) .nil) fun v σ' y s' B' q H I' hy=>?_
 subst q;cases hy;exact k s' I'.h1k I'.gens I'.os
theorem zy {prog:Program} {w:World} {s₁:Shared} {mg mb:Str→Option Value} (KX:(hp.heap_1 w.params).In s₁.heap) (hg:s₁.gens=#[]) (g:s₁.heap.Ns mainGlobals mg) (b:s₁.heap.Ns builtinsNs mb) (hb:∀x:Str,x ≠ "__name__"→mb x=bootBuiltins x) (lim:s₁.heap.NoLimit)
 {fa l:Addr} (hmg:mg "law" = some (.ref fa)) {vs:List Value} {us:List Int} (hl:s₁.heap.get? l=some { cls:=.type "list",data:=.seq vs.toArray }) (hi:IntsAre vs us) (hu:us.length≤1000) {R:Value→Shared→Prop}
 (k:∀s',(∀a o,s₁.heap.get? a=some o→s'.heap.get? a=some o)→s'.gens=#[]→s'.os=s₁.os→R (.bool true) s'):
 wpAny (model prog w) callerA (call (.ref fa) [.ref l]) R ft s₁:=by
 have k3:zB (hp.heap_1 w.params)=true:=by kernel_rfl
 have hfa:mg "law" = some (.ref 348):=qI KX k3 g (by nofun)
 rw[hfa]at hmg
 cases hmg
 have S2:∃o,(hp.heap_1 w.params).lookup 2=some o:=Option.isSome_iff_exists.mp (by nofun)
 refine S2.elim fun o2 ho2=>?_
 exact ym KG { prog:=prog,w:=w,h1:=s₁.heap,K:=hp.heap_1 w.params,mg:=mg,mb:=mb,os:=s₁.os,kin:=KX,ng:=g,nb:=b,lim:=lim,sysm:=⟨2,o2,by decide,KX _ _ ho2⟩ } ⟨rfl,hb⟩ s₁ l vs us R rfl hg rfl hl hi hu k
/-- 2234841607322767675 5636303146250169470 10000147801426223185 6231300445862588781 2116293081078497426 16874378897286668274 15159565307599043643 16561031784554278298 11912248818721715553 2395360589981782600 1697823684261348857 18264486928267264063 2601553834287326237 14766628837263464153 17523582860893176437 13291438424144138419 3278898641362494929 6046201485432095634 15725300006707927175 2130250830938240763 15254082267178112177 11243312107713688672 8138335841240258086 15459919231471728178 9193979096431994668 1298781202104834068 9879975888740728742 3780787445193727532 11815352881546339388 2114883523508822293 5479632107175813453 15899717617082638719 11122842944015723790 2655586099545260437 5963049168890907350 18280231356768202928 14321712812228375884 1311894858572065410 14228869016593613808 10980597926105621645 10314814847376767113 18272491874396864091 8764165114954018434 7192714274489868344 16064010049021166651 3396009393717830372 7839665609038958061 15515945658941396276 12010918843540018363 10200059711980206030 6825794384878216377 6064361311239337953 18150562674833509941 3299161351370674110 9673087150982176410 18066081243835392563 3692403537964248751 14791417324727343718 1942723855846508794 7873400313799303876 6585647535407982122 18315960055377521309 14199497947161861042 12978694689486476534 17237978297281736309 13988012559056256269 14784423416584386534 12917748928761252462 18260245816743181511 15614994299816657964 4568231203091369911 3896432864908169337 17287459089854585945 11934350699983728027 4812445951556440385 3312639428575888987 16009306857160682382 18002567053797782338 5411588774181628338 10257909930514227660 16555405951933438768 12935531204862948888 15544853520655005638 8673760779264423547 11082318014727886095 6034331834246549318 4229197034057890473 8455509636433690358 3219386304998410691 6362447207671622590 1160317203684671307 8899746735614894663 10503033235834121926 10200596682531068870 16607972267231536329 17775649180985745786 7046368057735379631 14076141398139754965 7430934849479919532 13436793889874751463 13411596345087251410 3731684781155429145 5533284921534288411 17396580953901912268 18349390837150388901 15441256140065102201 9878135420369046608 16973133056051306746 13704628199583507327 14170626163746665929 1546340448729182881 3751741238260587452 9013603393401162020 7339385377263174568 7107885837275350853 603594558354810906 15015567032572629849 18153037698230563350 6597962789093873526 580301670077480640 13862642468083079315 4195166080166848607 9276349011584097663 9372208762206411727 16732195475098059574 2782680217427406503 8994223850203857199 5588271506499744379 7104915865109316593 13414662886053400026 3503359234994187029 1665519426611977725 10610930620100246578 10584903055604394054 12387470312852788890 3844737390442312636 9368504840272485767 5015665141404485942 4794295470348331434 6496468359453899740 5766817342387943034 7076120885198085643 9032869535437464162 4992423415846252249 17562630884545722471 736559914600380603 1037384927157171198 12140054821641772977 15161326946880079398 9870564867049460845 754995371310844855 187721451887068916 14194955961183906216 10418821070498059912 8620653264166131082 10611771540298893143 17896979994045829828 4577393864431605276 9417033243287817803 14479959197142875710 6425283475488350215 2648843032644017059 13253541544203528774 17106247454124805299 1555437378128666086 5486493490053360157 9257564877634915833 3856896548228049414 17204449605386721941 5109750279720785074 15051540443700079324 14323767728887713897 4458026342584188919 10168931427177779312 9285060498679892708 14946310595379027892 9156451550823312209 4011730449221504619 8113946606531873331 2417802982746472137 1764190043647282684 270159884227141191 8722938342819674158 8184985727622759877 3062554034549116351 3916285193714390168 1532897608927182526 14330866029970894518 1479440292816680990 15610926135251115398 12538513643702813137 4158538966326616356 5594199804548315133 8890726212758104139 12284123929361467263 14304563500966998132 13702962655247883447 3241314515751092627 17510691922017120571 9180358300632990600 12899943327723670910 3058765270845314565 8594091374061654533 8390539997926843411 14019357707464180739 8547976606474840627 5910955368310942365 1292574782506224866 2223425423447361994 16490958093706603973 1838016361993159935 1991628956858267558 4855435815858847083 5129100327938481947 7828148429267724845 14204155614346801693 13331704739837112769 126899189614909607 231678842138440352 16898703421338395802 15230860919284253270 10261226752179379232 7459606713180098869 9810849677208565135 8583156150137307454 5216735753287636777 8382594148505853963 16049856711259736594 7504022934668878425 7635829786263382596 4277449665417238038 9826395005243518002 16644201821892198081 10478568671102049440 11155353856842241703 3020274298221478276 9027985886240724871 15313804776001833728 4455062051430825911 5165858259965997201 11745692727488381282 9373921966799846340 10169186735810369720 1513407473488127497 11810988563341916252 5759647067039785218 17438610683811369668 4572055151466897615 9365843419700471067 597430841090971830 5971218769407186746 5604250919994444252 455996952264472808 12149660499277099224 7333407450560187677 1235247223174674489 14252789559878227070 3641903923722224168 11043565332798135927 14885124812403076695 17745206419663925312 3544829072904777758 1992405202823017090 2155373148024153087 11476253306716732098 16698072605275554026 16045600132092593285 16531839799347345522 10592794516085672850 16633321846759511662 803298182361166000 80207222412747470 13419790239819088309 8151924304054899687 17059487216203745038 9191262796994957769 5630533868503338980 7670109990956578547 4650248630828124516 10981247840145607329 6714678847661489262 543636222009071611 17848483983322774464 1523212933880916979 5462893749543862879 11892193021254998364 2777310486606898128 396586649923856925 6547981424744323601 17548301592722837999 5079330015975024831 10652557068286136655 11747188248321908775 6128699546485818623 12289785986931056098 5813924530853040166 8580518863689810338 16140346037966671567 15293771430684577509 4544679596462431387 9812517637422296469 9666415797876524396 946596109463623320 2686811819572748776 9003164874222133143 11423366701579904857 5848525411004977341 4144914912218024235 9687556985513317663 13923870138079234902 17148754175671867601 9221647939110133654 7011742071773796823 7839861392634791998 16655954734093074254 7363439029260755892 11570111164570437037 15831449180804048182 6418394132375852581 9729328000736971776 11798513794507384182 14811596470062305402 9911449146246911586 1575818370579092412 123068294514122753 6156775387982992289 18229235640690726180 -/
theorem tws:True:=trivial
set_option tactic.hygienic true in
set_option Elab.async true in
theorem hd:PySem.Challenge.rw_on0213_01.Holds:=by
 w_on;o_law;o_head (kHook hp.heap_1 [2,3,15,22,23,24,25,28,35,36,38,39,41,42,43,44,45,48,55,57,58,60,61,62,63,64,74,76,77,79,80,81,82,83,84,85,88,90,91,93,94,95,97,98,100,101,102,104,105,107,108,109,111,112,114,115,116,118,119,121,122,123,125,126,128,129,130,133,134,135,137,138,140,141,142,144,145,147,148,149,151,152,154,155,156,158,159,161,162,163,165,166,168,169,170,172,173,175,176,177,179,180,182,183,184,186,187,189,190,191,193,194,196,197,198,200,201,203,204,205,207,208,210,211,212,214,215,217,218,219,221,222,224,225,226,228,229,231,232,240,242,243,245,246,247,249,250,252,253,254,255,256,257,258,261,263,264,266,267,268,270,271,273,274,275,277,278,280,281,282,284,285,287,288,289,291,292,294,295,296,299,300,301,303,304,306,307,308,311,312,313,316,317,318,321,322,323,325,326,328,329,330,332,333,335,336,337,339,340,342,343,344,347,348] (fun U=>by kernel_rfl));case hw=>w_witness2
 intro w s₀ s₁ mg mb G Y fa o pm cd doc dV kV ho ku hcd hD hmg hg args vals as hpre hlay hrd hwl hlo;have KX:=kIn_of Y
 wrow_args hpre hlay hrd hwl hlo;rename_i us _ _ _ _ _ _ _ l vs _ hL _ w1 _ hI _ h63 _;cases w1 with
 | list e ws=>
  obtain⟨ol,e2,_,nl,hdl⟩:=hL;rw[e] at e2;cases e2;have hv:vs.toArray.toList=_:=congrArg Array.toList (Data.seq.inj hdl).1.symm
  rw[List.toList_toArray,List.toList_toArray] at hv;subst hv;refine wpAny_mono (zy KX hg G.T.g G.T.b G.T.builtins G.T.nolimit hmg e hI (by omega) fun s' h1 h2 h3=>?_) (fun U U h=>h) fun U U h=>h.elim
  exact⟨.inl ⟨_,.bool true,[],rfl,fun U=>rfl,.bool true,(by wrow_post),fun U=>⟨.nil,fun a ha=>(by cases ha)⟩⟩,.of_keep h1,h3,.of_eq h2⟩
end Mine.Internal
theorem PySem.Challenge.cw_on0213_01_holds : PySem.Challenge.rw_on0213_01.Holds :=
  Mine.Internal.hd
