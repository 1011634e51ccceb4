import PyProof.Rows.All
import Wide.All
import OpenK.AllK
import Wide.FinOn
import PyProof.Rows.EqMixed
import PyProof.Rows.StrInSeq
import PyProof.DictRoadsH
import PyProof.DictStraight
import PyProof.DictCalls
import OpenK.KWalk
import PyProof.ToksMono
import PyProof.DictWalks
import PyProof.StrWalks
import PyProof.WalksMore
import PyProof.RangeFor
import PyProof.Rows.TupDisplay
import PyProof.StrReplace2
import PyProof.Rows.StrStrike
import PyProof.CompFree
import PyProof.CompMap
import PyProof.CompUse
import PyProof.AssignAttr
import PyProof.Rows.ExtendIn
import PyProof.ForAny
import PyProof.DefCall
import OpenK.KLine
import OpenK.KMake
import PyProof.Rows.MatchSeqLen
import PyProof.WalkInts
import PyProof.TupleOfSeq
import PyProof.TupleCall
import PyProof.CallStr
import PyProof.Rows.StrKeys3
import KE.KIntText
import PyProof.ConsumeWalk
import PyProof.SumWalk
import KE.KDictOf
import KE.KDictList
import PyProof.Rows.SortStr
import OpenK.KCls
import OpenK.KGet
import Open.Tops
import PyProof.DefStmt0
import Lean
import PySem.Challenge.RW_or0006_01
open PySem PySem.W PyProof.Rows
set_option Elab.async false
set_option maxRecDepth 100000
set_option linter.unusedVariables false
set_option linter.unusedSimpArgs false
set_option linter.defProp false
set_option tactic.hygienic false
namespace Mine
noncomputable abbrev pw:Program:=PySem.Challenge.pw_or0006_01

def nl {a b:Nat}(h:Nat.ble a b=true):a<=b:=Nat.le_of_ble_eq_true h
def bc {p:Prop}(h:¬p->False):p:=Classical.byContradiction h
def ay {P1 P2 ai:Prop}(h:P1/\P2)(k:P1->P2->ai):ai:=h.elim k
def ef {P1 P2 P3 ai:Prop}(h:P1/\P2/\P3)(k:P1->P2->P3->ai):ai:=h.elim λa z=>ay z (k a)
def jm {P1 P2 P3 P4 ai:Prop}(h:P1/\P2/\P3/\P4)(k:P1->P2->P3->P4->ai):ai:=h.elim λa z=>ef z (k a)
def Ce {P1 P2 P3 P4 P5 ai:Prop}(h:P1/\P2/\P3/\P4/\P5)(k:P1->P2->P3->P4->P5->ai):ai:=h.elim λa z=>jm z (k a)
def IE {P1 P2 P3 P4 P5 P6 ai:Prop}(h:P1/\P2/\P3/\P4/\P5/\P6)(k:P1->P2->P3->P4->P5->P6->ai):ai:=h.elim λa z=>Ce z (k a)
def IF {P1 P2 P3 P4 P5 P6 P7 ai:Prop}(h:P1/\P2/\P3/\P4/\P5/\P6/\P7)(k:P1->P2->P3->P4->P5->P6->P7->ai):ai:=h.elim λa z=>IE z (k a)
def IG {P1 P2 P3 P4 P5 P6 P7 P8 ai:Prop}(h:P1/\P2/\P3/\P4/\P5/\P6/\P7/\P8)(k:P1->P2->P3->P4->P5->P6->P7->P8->ai):ai:=h.elim λa z=>IF z (k a)
def aM {A:Sort _}{P1:A->Prop}{ai:Prop}(h:∃a,P1 a)(k:∀a,P1 a->ai):ai:=h.elim k
def aq {A:Sort _}{P1 P2:A->Prop}{ai:Prop}(h:∃a,P1 a/\P2 a)(k:∀a,P1 a->P2 a->ai):ai:=h.elim λa z=>ay z (k a)
def bW {A:Sort _}{P1 P2 P3:A->Prop}{ai:Prop}(h:∃a,P1 a/\P2 a/\P3 a)(k:∀a,P1 a->P2 a->P3 a->ai):ai:=h.elim λa z=>ef z (k a)
def n9 {A:Sort _}{P1 P2 P3 P4:A->Prop}{ai:Prop}(h:∃a,P1 a/\P2 a/\P3 a/\P4 a)(k:∀a,P1 a->P2 a->P3 a->P4 a->ai):ai:=h.elim λa z=>jm z (k a)
def IH {A:Sort _}{P1 P2 P3 P4 P5:A->Prop}{ai:Prop}(h:∃a,P1 a/\P2 a/\P3 a/\P4 a/\P5 a)(k:∀a,P1 a->P2 a->P3 a->P4 a->P5 a->ai):ai:=h.elim λa z=>Ce z (k a)
def Wn {A:Sort _}{P1 P2 P3 P4 P5 P6:A->Prop}{ai:Prop}(h:∃a,P1 a/\P2 a/\P3 a/\P4 a/\P5 a/\P6 a)(k:∀a,P1 a->P2 a->P3 a->P4 a->P5 a->P6 a->ai):ai:=h.elim λa z=>IE z (k a)
def xX {A:Sort _}{P1 P2 P3 P4 P5 P6 P7:A->Prop}{ai:Prop}(h:∃a,P1 a/\P2 a/\P3 a/\P4 a/\P5 a/\P6 a/\P7 a)(k:∀a,P1 a->P2 a->P3 a->P4 a->P5 a->P6 a->P7 a->ai):ai:=h.elim λa z=>IF z (k a)
def Wo {A:Sort _}{P1 P2 P3 P4 P5 P6 P7 P8:A->Prop}{ai:Prop}(h:∃a,P1 a/\P2 a/\P3 a/\P4 a/\P5 a/\P6 a/\P7 a/\P8 a)(k:∀a,P1 a->P2 a->P3 a->P4 a->P5 a->P6 a->P7 a->P8 a->ai):ai:=h.elim λa z=>IG z (k a)
def c9 {A B:Sort _}{P1:A->B->Prop}{ai:Prop}(h:∃a b,P1 a b)(k:∀a b,P1 a b->ai):ai:=h.elim λa z=>aM z (k a)
def aG {A B:Sort _}{P1 P2:A->B->Prop}{ai:Prop}(h:∃a b,P1 a b/\P2 a b)(k:∀a b,P1 a b->P2 a b->ai):ai:=h.elim λa z=>aq z (k a)
def aw {A B:Sort _}{P1 P2 P3:A->B->Prop}{ai:Prop}(h:∃a b,P1 a b/\P2 a b/\P3 a b)(k:∀a b,P1 a b->P2 a b->P3 a b->ai):ai:=h.elim λa z=>bW z (k a)
def hZ {A B:Sort _}{P1 P2 P3 P4:A->B->Prop}{ai:Prop}(h:∃a b,P1 a b/\P2 a b/\P3 a b/\P4 a b)(k:∀a b,P1 a b->P2 a b->P3 a b->P4 a b->ai):ai:=h.elim λa z=>n9 z (k a)
def II {A B:Sort _}{P1 P2 P3 P4 P5:A->B->Prop}{ai:Prop}(h:∃a b,P1 a b/\P2 a b/\P3 a b/\P4 a b/\P5 a b)(k:∀a b,P1 a b->P2 a b->P3 a b->P4 a b->P5 a b->ai):ai:=h.elim λa z=>IH z (k a)
def xY {A B:Sort _}{P1 P2 P3 P4 P5 P6:A->B->Prop}{ai:Prop}(h:∃a b,P1 a b/\P2 a b/\P3 a b/\P4 a b/\P5 a b/\P6 a b)(k:∀a b,P1 a b->P2 a b->P3 a b->P4 a b->P5 a b->P6 a b->ai):ai:=h.elim λa z=>Wn z (k a)
def Wq {A B:Sort _}{P1 P2 P3 P4 P5 P6 P7 P8:A->B->Prop}{ai:Prop}(h:∃a b,P1 a b/\P2 a b/\P3 a b/\P4 a b/\P5 a b/\P6 a b/\P7 a b/\P8 a b)(k:∀a b,P1 a b->P2 a b->P3 a b->P4 a b->P5 a b->P6 a b->P7 a b->P8 a b->ai):ai:=h.elim λa z=>Wo z (k a)
def eU {A B C:Sort _}{P1:A->B->C->Prop}{ai:Prop}(h:∃a b c,P1 a b c)(k:∀a b c,P1 a b c->ai):ai:=h.elim λa z=>c9 z (k a)
def Cf {A B C:Sort _}{P1 P2:A->B->C->Prop}{ai:Prop}(h:∃a b c,P1 a b c/\P2 a b c)(k:∀a b c,P1 a b c->P2 a b c->ai):ai:=h.elim λa z=>aG z (k a)
def fA {A B C:Sort _}{P1 P2 P3:A->B->C->Prop}{ai:Prop}(h:∃a b c,P1 a b c/\P2 a b c/\P3 a b c)(k:∀a b c,P1 a b c->P2 a b c->P3 a b c->ai):ai:=h.elim λa z=>aw z (k a)
def eP {A B C:Sort _}{P1 P2 P3 P4:A->B->C->Prop}{ai:Prop}(h:∃a b c,P1 a b c/\P2 a b c/\P3 a b c/\P4 a b c)(k:∀a b c,P1 a b c->P2 a b c->P3 a b c->P4 a b c->ai):ai:=h.elim λa z=>hZ z (k a)
def mI {A B C:Sort _}{P1 P2 P3 P4 P5:A->B->C->Prop}{ai:Prop}(h:∃a b c,P1 a b c/\P2 a b c/\P3 a b c/\P4 a b c/\P5 a b c)(k:∀a b c,P1 a b c->P2 a b c->P3 a b c->P4 a b c->P5 a b c->ai):ai:=h.elim λa z=>II z (k a)
def xZ {A B C:Sort _}{P1 P2 P3 P4 P5 P6:A->B->C->Prop}{ai:Prop}(h:∃a b c,P1 a b c/\P2 a b c/\P3 a b c/\P4 a b c/\P5 a b c/\P6 a b c)(k:∀a b c,P1 a b c->P2 a b c->P3 a b c->P4 a b c->P5 a b c->P6 a b c->ai):ai:=h.elim λa z=>xY z (k a)
def n_ {A B C D:Sort _}{P1 P2:A->B->C->D->Prop}{ai:Prop}(h:∃a b c d,P1 a b c d/\P2 a b c d)(k:∀a b c d,P1 a b c d->P2 a b c d->ai):ai:=h.elim λa z=>Cf z (k a)
def gJ {A B C D:Sort _}{P1 P2 P3:A->B->C->D->Prop}{ai:Prop}(h:∃a b c d,P1 a b c d/\P2 a b c d/\P3 a b c d)(k:∀a b c d,P1 a b c d->P2 a b c d->P3 a b c d->ai):ai:=h.elim λa z=>fA z (k a)
def oe {A B C D:Sort _}{P1 P2 P3 P4:A->B->C->D->Prop}{ai:Prop}(h:∃a b c d,P1 a b c d/\P2 a b c d/\P3 a b c d/\P4 a b c d)(k:∀a b c d,P1 a b c d->P2 a b c d->P3 a b c d->P4 a b c d->ai):ai:=h.elim λa z=>eP z (k a)
def x5 {A B C D:Sort _}{P1 P2 P3 P4 P5:A->B->C->D->Prop}{ai:Prop}(h:∃a b c d,P1 a b c d/\P2 a b c d/\P3 a b c d/\P4 a b c d/\P5 a b c d)(k:∀a b c d,P1 a b c d->P2 a b c d->P3 a b c d->P4 a b c d->P5 a b c d->ai):ai:=h.elim λa z=>mI z (k a)
def jI {A B C D E:Sort _}{P1 P2 P3:A->B->C->D->E->Prop}{ai:Prop}(h:∃a b c d e,P1 a b c d e/\P2 a b c d e/\P3 a b c d e)(k:∀a b c d e,P1 a b c d e->P2 a b c d e->P3 a b c d e->ai):ai:=h.elim λa z=>gJ z (k a)
def Wr {A B C D E:Sort _}{P1 P2 P3 P4:A->B->C->D->E->Prop}{ai:Prop}(h:∃a b c d e,P1 a b c d e/\P2 a b c d e/\P3 a b c d e/\P4 a b c d e)(k:∀a b c d e,P1 a b c d e->P2 a b c d e->P3 a b c d e->P4 a b c d e->ai):ai:=h.elim λa z=>oe z (k a)
def IJ {A B C D E:Sort _}{P1 P2 P3 P4 P5:A->B->C->D->E->Prop}{ai:Prop}(h:∃a b c d e,P1 a b c d e/\P2 a b c d e/\P3 a b c d e/\P4 a b c d e/\P5 a b c d e)(k:∀a b c d e,P1 a b c d e->P2 a b c d e->P3 a b c d e->P4 a b c d e->P5 a b c d e->ai):ai:=h.elim λa z=>x5 z (k a)
def bx {P1 P2 P3:Prop}(H:P1)(M:P2)(h3:P3):P1/\P2/\P3:=⟨H,M,h3⟩
def eQ {P1 P2 P3 P4:Prop}(H:P1)(M:P2)(h3:P3)(h4:P4):P1/\P2/\P3/\P4:=⟨H,M,h3,h4⟩
def x6 {P1 P2 P3 P4 P5:Prop}(H:P1)(M:P2)(h3:P3)(h4:P4)(h5:P5):P1/\P2/\P3/\P4/\P5:=⟨H,M,h3,h4,h5⟩
def IK {P1 P2 P3 P4 P5 P6:Prop}(H:P1)(M:P2)(h3:P3)(h4:P4)(h5:P5)(h6:P6):P1/\P2/\P3/\P4/\P5/\P6:=⟨H,M,h3,h4,h5,h6⟩
def eg {A:Sort _}{P1:A->Prop}(a:A)(H:P1 a):∃a,P1 a:=⟨a,H⟩
def af {A:Sort _}{P1 P2:A->Prop}(a:A)(H:P1 a)(M:P2 a):∃a,P1 a/\P2 a:=⟨a,H,M⟩
def bX {A:Sort _}{P1 P2 P3:A->Prop}(a:A)(H:P1 a)(M:P2 a)(h3:P3 a):∃a,P1 a/\P2 a/\P3 a:=⟨a,H,M,h3⟩
def mJ {A:Sort _}{P1 P2 P3 P4:A->Prop}(a:A)(H:P1 a)(M:P2 a)(h3:P3 a)(h4:P4 a):∃a,P1 a/\P2 a/\P3 a/\P4 a:=⟨a,H,M,h3,h4⟩
def x7 {A:Sort _}{P1 P2 P3 P4 P5 P6 P7:A->Prop}(a:A)(H:P1 a)(M:P2 a)(h3:P3 a)(h4:P4 a)(h5:P5 a)(h6:P6 a)(h7:P7 a):∃a,P1 a/\P2 a/\P3 a/\P4 a/\P5 a/\P6 a/\P7 a:=⟨a,H,M,h3,h4,h5,h6,h7⟩
def dB {A B:Sort _}{P1:A->B->Prop}(a:A)(b:B)(H:P1 a b):∃a b,P1 a b:=⟨a,b,H⟩
def ax {A B:Sort _}{P1 P2:A->B->Prop}(a:A)(b:B)(H:P1 a b)(M:P2 a b):∃a b,P1 a b/\P2 a b:=⟨a,b,H,M⟩
def aD {A B:Sort _}{P1 P2 P3:A->B->Prop}(a:A)(b:B)(H:P1 a b)(M:P2 a b)(h3:P3 a b):∃a b,P1 a b/\P2 a b/\P3 a b:=⟨a,b,H,M,h3⟩
def d6 {A B:Sort _}{P1 P2 P3 P4:A->B->Prop}(a:A)(b:B)(H:P1 a b)(M:P2 a b)(h3:P3 a b)(h4:P4 a b):∃a b,P1 a b/\P2 a b/\P3 a b/\P4 a b:=⟨a,b,H,M,h3,h4⟩
def Cg {A B:Sort _}{P1 P2 P3 P4 P5:A->B->Prop}(a:A)(b:B)(H:P1 a b)(M:P2 a b)(h3:P3 a b)(h4:P4 a b)(h5:P5 a b):∃a b,P1 a b/\P2 a b/\P3 a b/\P4 a b/\P5 a b:=⟨a,b,H,M,h3,h4,h5⟩
def IL {A B:Sort _}{P1 P2 P3 P4 P5 P6:A->B->Prop}(a:A)(b:B)(H:P1 a b)(M:P2 a b)(h3:P3 a b)(h4:P4 a b)(h5:P5 a b)(h6:P6 a b):∃a b,P1 a b/\P2 a b/\P3 a b/\P4 a b/\P5 a b/\P6 a b:=⟨a,b,H,M,h3,h4,h5,h6⟩
def Ws {A B:Sort _}{P1 P2 P3 P4 P5 P6 P7 P8:A->B->Prop}(a:A)(b:B)(H:P1 a b)(M:P2 a b)(h3:P3 a b)(h4:P4 a b)(h5:P5 a b)(h6:P6 a b)(h7:P7 a b)(h8:P8 a b):∃a b,P1 a b/\P2 a b/\P3 a b/\P4 a b/\P5 a b/\P6 a b/\P7 a b/\P8 a b:=⟨a,b,H,M,h3,h4,h5,h6,h7,h8⟩
def iP {A B C:Sort _}{P1:A->B->C->Prop}(a:A)(b:B)(c:C)(H:P1 a b c):∃a b c,P1 a b c:=⟨a,b,c,H⟩
def Wt {A B C:Sort _}{P1 P2:A->B->C->Prop}(a:A)(b:B)(c:C)(H:P1 a b c)(M:P2 a b c):∃a b c,P1 a b c/\P2 a b c:=⟨a,b,c,H,M⟩
def gf {A B C:Sort _}{P1 P2 P3:A->B->C->Prop}(a:A)(b:B)(c:C)(H:P1 a b c)(M:P2 a b c)(h3:P3 a b c):∃a b c,P1 a b c/\P2 a b c/\P3 a b c:=⟨a,b,c,H,M,h3⟩
def fB {A B C:Sort _}{P1 P2 P3 P4:A->B->C->Prop}(a:A)(b:B)(c:C)(H:P1 a b c)(M:P2 a b c)(h3:P3 a b c)(h4:P4 a b c):∃a b c,P1 a b c/\P2 a b c/\P3 a b c/\P4 a b c:=⟨a,b,c,H,M,h3,h4⟩
def mK {A B C:Sort _}{P1 P2 P3 P4 P5:A->B->C->Prop}(a:A)(b:B)(c:C)(H:P1 a b c)(M:P2 a b c)(h3:P3 a b c)(h4:P4 a b c)(h5:P5 a b c):∃a b c,P1 a b c/\P2 a b c/\P3 a b c/\P4 a b c/\P5 a b c:=⟨a,b,c,H,M,h3,h4,h5⟩
def uF {A B C:Sort _}{P1 P2 P3 P4 P5 P6:A->B->C->Prop}(a:A)(b:B)(c:C)(H:P1 a b c)(M:P2 a b c)(h3:P3 a b c)(h4:P4 a b c)(h5:P5 a b c)(h6:P6 a b c):∃a b c,P1 a b c/\P2 a b c/\P3 a b c/\P4 a b c/\P5 a b c/\P6 a b c:=⟨a,b,c,H,M,h3,h4,h5,h6⟩
def pF {A B C D:Sort _}{P1 P2:A->B->C->D->Prop}(a:A)(b:B)(c:C)(d:D)(H:P1 a b c d)(M:P2 a b c d):∃a b c d,P1 a b c d/\P2 a b c d:=⟨a,b,c,d,H,M⟩
def x8 {A B C D:Sort _}{P1 P2 P3:A->B->C->D->Prop}(a:A)(b:B)(c:C)(d:D)(H:P1 a b c d)(M:P2 a b c d)(h3:P3 a b c d):∃a b c d,P1 a b c d/\P2 a b c d/\P3 a b c d:=⟨a,b,c,d,H,M,h3⟩
def kh {A B C D:Sort _}{P1 P2 P3 P4:A->B->C->D->Prop}(a:A)(b:B)(c:C)(d:D)(H:P1 a b c d)(M:P2 a b c d)(h3:P3 a b c d)(h4:P4 a b c d):∃a b c d,P1 a b c d/\P2 a b c d/\P3 a b c d/\P4 a b c d:=⟨a,b,c,d,H,M,h3,h4⟩
def Wu {A B C D:Sort _}{P1 P2 P3 P4 P5:A->B->C->D->Prop}(a:A)(b:B)(c:C)(d:D)(H:P1 a b c d)(M:P2 a b c d)(h3:P3 a b c d)(h4:P4 a b c d)(h5:P5 a b c d):∃a b c d,P1 a b c d/\P2 a b c d/\P3 a b c d/\P4 a b c d/\P5 a b c d:=⟨a,b,c,d,H,M,h3,h4,h5⟩
def mN {A B C D E:Sort _}{P1 P2 P3:A->B->C->D->E->Prop}(a:A)(b:B)(c:C)(d:D)(e:E)(H:P1 a b c d e)(M:P2 a b c d e)(h3:P3 a b c d e):∃a b c d e,P1 a b c d e/\P2 a b c d e/\P3 a b c d e:=⟨a,b,c,d,e,H,M,h3⟩
def rN {A B C D E:Sort _}{P1 P2 P3 P4 P5:A->B->C->D->E->Prop}(a:A)(b:B)(c:C)(d:D)(e:E)(H:P1 a b c d e)(M:P2 a b c d e)(h3:P3 a b c d e)(h4:P4 a b c d e)(h5:P5 a b c d e):∃a b c d e,P1 a b c d e/\P2 a b c d e/\P3 a b c d e/\P4 a b c d e/\P5 a b c d e:=⟨a,b,c,d,e,H,M,h3,h4,h5⟩
def aH {α β:Type _}{x:Option α}{f:α->Option β}{b:β}{ai:Prop}(h:x.bind f=some b)(k:∀a,x=some a->f a=some b->ai):ai:=aq (Option.bind_eq_some_iff.mp h) k
def bT {α β:Type _}{f:α->β}{l:List α}{b:β}{ai:Prop}(h:b∈l.map f)(k:∀a,a∈l->f a=b->ai):ai:=aq (List.mem_map.mp h) k
def lu {α β:Type _}{x:Option α}{f:α->β}{b:β}{ai:Prop}(h:x.map f=some b)(k:∀a,x=some a->f a=b->ai):ai:=aq (Option.map_eq_some_iff.mp h) k
def gK {a b:Bool}{ai:Prop}(h:(a&&b)=true)(k:a=true->b=true->ai):ai:=ay (Bool.and_eq_true_iff.mp h) k
def o8 {α β:Type _}{a c:α}{b d:β}{ai:Prop}(h:(a,b)=(c,d))(k:a=c->b=d->ai):ai:=ay (Prod.mk.inj h) k
def aF {α:Type _}{x:α}{p:Prop}(h:none=some x):p:=nomatch h
def lx {α:Type _}{x:α}{p:Prop}(h:some x=none):p:=nomatch h
def aS {p:Prop}(h:false=true):p:=nomatch h
def d7 {p:Prop}(h:true=false):p:=nomatch h
def mP {α:Type _}{x:α}{l:List α}{p:Prop}(h:[]=x::l):p:=nomatch h
def og {α:Type _}{x:α}{l:List α}{p:Prop}(h:x::l=[]):p:=nomatch h
def cj {α:Type _}{x:α}{p:Prop}(h:x∈([]:List α)):p:=nomatch h
def IM {n:Nat}{p:Prop}(h:0=n+1):p:=nomatch h
def Ci {n:Nat}{p:Prop}(h:n+1=0):p:=nomatch h
def Wv {n:Nat}{p:Prop}(h:n<0):p:=absurd h (Nat.not_lt_zero n)
def si {a b:Nat}{p:Prop}(h:a=b)(k:Nat.beq a b=false):p:=by subst h;exact aS (k.symm.trans (Nat.beq_refl _))
def rO {a b:PySem.Value}{p:Prop}(h:a=b)(k:Nat.beq a.ctorIdx b.ctorIdx=false):p:=si (congrArg PySem.Value.ctorIdx h) k
def Ww {a b:PySem.Data}{p:Prop}(h:a=b)(k:Nat.beq a.ctorIdx b.ctorIdx=false):p:=si (congrArg PySem.Data.ctorIdx h) k
def JB {j:Nat}(h:j<2):j=0\/j=1:=(by decide:∀j,j<2->j=0\/j=1) j h
def XF {j:Nat}(h:j<3):j=0\/j=1\/j=2:=(by decide:∀j,j<3->j=0\/j=1\/j=2) j h
def C_ {j:Nat}(h:j<4):j=0\/j=1\/j=2\/j=3:=(by decide:∀j,j<4->j=0\/j=1\/j=2\/j=3) j h
def JC {j:Nat}(h:j<6):j=0\/j=1\/j=2\/j=3\/j=4\/j=5:=(by decide:∀j,j<6->j=0\/j=1\/j=2\/j=3\/j=4\/j=5) j h
def JD {j:Nat}(h:j<8):j=0\/j=1\/j=2\/j=3\/j=4\/j=5\/j=6\/j=7:=(by decide:∀j,j<8->j=0\/j=1\/j=2\/j=3\/j=4\/j=5\/j=6\/j=7) j h
def md {x n:Nat}(h:Nat.ble 1 n=true):x%n<n:=Nat.mod_lt x (Nat.le_of_ble_eq_true h)
def JE {i m n:Nat}(h:i+m=n)(q:m≠0):i+1+(m-1)=n:=by rw [Nat.add_assoc,Nat.add_comm 1,Nat.sub_add_cancel (Nat.one_le_iff_ne_zero.mpr q)];exact h
def JF {i m n:Nat}(h:i+m=n)(q:m≠0):i<n:=h▸Nat.lt_add_of_pos_right (Nat.pos_of_ne_zero q)
def XG {i m n:Nat}(h:i+m=n)(q:i<n):m≠0:=λe=>Nat.lt_irrefl i (by rw [e] at h;exact Nat.lt_of_lt_of_eq q h.symm)
def XH {i m n:Nat}(h:i+m=n)(q:i<n):m-1<m:=Nat.sub_one_lt (XG h q)
def Dc {i m n:Nat}(h:i+m=n)(q:m=0):i=n:=by rw [q] at h;exact h
def JG {n m l:Nat}(h:n<=1048576):min m n-l<=16777216:=Nat.le_trans (Nat.sub_le _ _) (Nat.le_trans (Nat.min_le_right _ _) (Nat.le_trans h (Nat.le_of_ble_eq_true rfl)))
def XI {a b:Nat}:((b:Int)-(a:Int)).toNat=b-a:=Int.toNat_sub b a
def XJ {l i:Nat}:((l:Int)+(i:Int)*1).toNat=l+i:=by rw [Int.mul_one];rfl
def XK {a b:Int}(h:a<b):b-a=((b-a).toNat:Int):=(Int.toNat_of_nonneg (Int.sub_nonneg_of_le (Int.le_of_lt h))).symm
def XM {a:Nat}(h:3<a):(a:Int)-4=((a-4:Nat):Int):=(Int.ofNat_sub h).symm
def XN {c:Nat}(h:c<=57):c-48<10:=Nat.lt_of_le_of_lt (Nat.sub_le_sub_right h 48) (Nat.le_of_ble_eq_true rfl)
def XO {x:Nat}:x%12-4<8:=Nat.lt_of_le_of_lt (Nat.sub_le_sub_right (Nat.le_of_lt_succ (Nat.mod_lt x (Nat.le_of_ble_eq_true rfl))) 4) (Nat.le_of_ble_eq_true rfl)
def XP {n:Nat}(h:n<=6)(q:¬n<=3):(n+2)/3=2:=(by decide:∀j,j<7->¬j<=3->(j+2)/3=2) n (Nat.lt_succ_of_le h) q
def JH {j:Int}{n:Nat}(h:0<=j)(q:j.toNat<n):j<n:=(Int.toNat_lt h).mp q
def XQ {n c m:Nat}(h:n<=m):n+1-c<=m+1:=Nat.le_trans (Nat.sub_le _ _) (Nat.succ_le_succ h)
def XR {n c j m:Nat}(h:j<n+1-c)(q:n<=m):c+j<m+1:=by rw [Nat.add_comm];exact Nat.lt_of_lt_of_le (Nat.add_lt_of_lt_sub h) (Nat.succ_le_succ q)
def yy {n m k:Nat}(h:n<=m):n-k<=m:=Nat.le_trans (Nat.sub_le _ _) h
def XS {a b:Nat}(h:0<a-b):b<a:=Nat.lt_of_sub_pos h
def XT {a b:Nat}(h:0=a-b):¬b<a:=λq=>Nat.ne_of_lt (Nat.sub_pos_of_lt q) h
def XU {a b c:Nat}:((min a b:Nat):Int)<c↔a<c\/b<c:=by rw [Int.ofNat_lt];exact ⟨λh=>(Nat.le_total a b).elim (λq=>.inl (Nat.min_eq_left q▸h)) λq=>.inr (Nat.min_eq_right q▸h),λh=>h.elim (Nat.lt_of_le_of_lt (Nat.min_le_left _ _)) (Nat.lt_of_le_of_lt (Nat.min_le_right _ _))⟩
def f7 {j:Nat}(h:j<7)(q:j≠6):(j=0\/j=1\/j=2\/j=3\/j=5)\/j=4:=(by decide:∀j,j<7->j≠6->(j=0\/j=1\/j=2\/j=3\/j=5)\/j=4) j h q
def f6 {j:Nat}(h:j<=5):(j=4\/j=5)\/j=6↔4<=j:=(by decide:∀j,j<6->((j=4\/j=5)\/j=6↔4<=j)) j (Nat.lt_succ_of_le h)
def f3 {n:Nat}(h:0<n)(q:n<=3):(n+2)/3=1:=(by decide:∀j,j<4->0<j->(j+2)/3=1) n (Nat.lt_succ_of_le q) h
def JI {n c m:Nat}(h:n<=m):1*(n+1-c)<=m+1:=by rw [Nat.one_mul];exact XQ h
def XW {k n c:Nat}(g:k+5<=1000000)(h:n<=3):k+1*(n+1-c)<=1000000:=Nat.le_trans (Nat.add_le_add_left (Nat.le_trans (JI h) (Nat.le_of_ble_eq_true rfl)) k) g
def fG {α β:Type _}{l:List α}{f g:α->β}(h:l.map f=l.foldr (λa r=>g a::r) []):∀x∈l,f x=g x:=List.map_inj_left.mp (h.trans List.map_eq_foldr.symm)
def yz {k:Nat}(h:k<=1000000):-4611686018427387903<=(k:Int)/\(k:Int)<=4611686018427387903:=⟨Int.le_trans (by decide) (Int.natCast_nonneg k),Int.ofNat_le.mpr (Nat.le_trans h (nl rfl))⟩
def yA {a b c:Nat}(h:a+b<c):a<c:=Nat.lt_of_le_of_lt (Nat.le_add_right a b) h
def vw {a b d c:Nat}(h:a+b<c)(q:d<=b):a+d<c:=Nat.lt_of_le_of_lt (Nat.add_le_add_left q a) h
def HI {a b:Nat}(h:¬a<b):¬(a:Int)<b:=λq=>h (Int.ofNat_lt.mp q)
def x9 {i:Int}(h:-4611686018427387903<=i):-(2^62)<=i:=Int.le_trans (by decide) h
def IP {i:Int}(h:i<=4611686018427387903):i<=2^62:=Int.le_trans h (by decide)
def Cj {i:Int}(h:-(2^62)<=i):-(2^63)<=i:=Int.le_trans (by decide) h
def Ck {i:Int}(h:i<=2^62):i<2^63:=Int.lt_of_le_of_lt h (by decide)
def Cm {i:Int}(h:¬0<=i):i<0:=Int.not_le.mp h
def JJ {i:Int}(h:0<=i):¬i<0:=Int.not_lt.mpr h
def S2 {i:Int}{n:Nat}(h:-(n:Int)<=i)(q:i<0):0<=i+n/\i+n<n:=⟨Int.le_trans (Int.le_of_eq (Int.add_left_neg _).symm) (Int.add_le_add_right h _),Int.lt_of_lt_of_le (Int.add_lt_add_right q _) (Int.le_of_eq (Int.zero_add _))⟩
def vx {u n c L j k:Nat}(h:u+k*(n+1)+c<L)(q:j<=k):u+j+k*n+c<L:=Nat.lt_of_le_of_lt (Nat.add_le_add_right (by rw [Nat.mul_succ,Nat.add_comm (k*n) k,<-Nat.add_assoc];exact Nat.add_le_add_right (Nat.add_le_add_left q u) _) c) h
def S3 {i:Int}(h:-4611686018427387903<=i/\i<=4611686018427387903):i.natAbs<2^63:=by cases i with|ofNat n=>exact Nat.lt_of_le_of_lt (Int.ofNat_le.mp h.2) (nl rfl)|negSucc n=>exact Nat.lt_of_le_of_lt (Int.ofNat_le.mp (Int.neg_le_neg h.1)) (nl rfl)
def Dd {b:Nat}(h:0<b):(b:Int)≠0:=λe=>Nat.ne_of_gt h (Int.natCast_inj.mp e)
def PY {a:Nat}{l:List Nat}(h:a<10)(e:l.all (Nat.ble 10 ·)=true):a∉l:=λq=>absurd (Nat.le_of_ble_eq_true (List.all_eq_true.mp e a q)) (Nat.not_le.mpr h)
def Wx {m l s:Nat}(q:m-l=s)(h:m<=s)(g:l<=s):l=0:=bc λz=>Nat.lt_irrefl s (Nat.lt_of_le_of_lt (Nat.le_trans (Nat.le_of_eq q.symm) (Nat.sub_le_sub_right h l)) (Nat.sub_lt (Nat.lt_of_lt_of_le (Nat.pos_of_ne_zero z) g) (Nat.pos_of_ne_zero z)))
def xD {n:Nat}(h:n<=1048576):(n:Int)<2^63:=Int.lt_of_le_of_lt (Int.ofNat_le.mpr h) (by decide)
def iV {a b c:Nat}(h:a<=b)(q:Nat.ble (c+1) a=true):b≠c:=Nat.ne_of_gt (Nat.lt_of_lt_of_le (Nat.le_of_ble_eq_true q) h)
def vy {a b c:Nat}(h:b<=a)(q:Nat.ble (a+1) c=true):b≠c:=Nat.ne_of_lt (Nat.lt_of_le_of_lt h (Nat.le_of_ble_eq_true q))
def HJ {i:Int}(h:i<=4611686018427387903):i<2^62:=Int.lt_of_le_of_lt h (by decide)
def lC {n k:Nat}(h:n<64)(q:Nat.ble 64 k=true):n<=k:=Nat.le_trans (Nat.le_of_lt h) (nl q)
def j3 {j c:Nat}(h:j<2)(q:Nat.ble (6+c) 100=true):3*j+c<=100:=Nat.le_trans (Nat.add_le_add_right (Nat.mul_le_mul_left 3 (Nat.le_of_lt h)) c) (nl q)
def uG {i:Nat}{p:Prop}(h:-1=(i:Int)):p:=absurd (Int.natCast_nonneg i) (h▸(by decide))
def aE {α:Type _}{p:α->Bool}{l:List α}(h:l.all p=true):∀x∈l,p x=true:=List.all_eq_true.mp h
def mE {α:Type _}{a b:α}{l:List α}(h:a∈b::l):a=b\/a∈l:=List.mem_cons.mp h
def bE {α:Type _}[BEq α][LawfulBEq α]{a b:α}(h:(a==b)=true):a=b:=beq_iff_eq.mp h
def bI {α:Type _}[BEq α][LawfulBEq α]{a b:α}(h:a=b):(a==b)=true:=beq_iff_eq.mpr h
def bN {α:Type _}[BEq α][LawfulBEq α]{a b:α}(h:a≠b):(a==b)=false:=beq_eq_false_iff_ne.mpr h
def sE {α:Type _}{a b:α}(h:a∈[b]):a=b:=List.mem_singleton.mp h
def oB {α β:Type _}{x:Option α}{f:α->Option β}{b:β}(h:x.bind f=some b):∃a,x=some a/\f a=some b:=Option.bind_eq_some_iff.mp h
def dR {α:Type _}{l:List α}{i:Nat}{a:α}(h:l[i]?=some a):∃h:i<l.length,l[i]=a:=List.getElem?_eq_some_iff.mp h
def nE {α:Type _}{a:α}{l:List α}(h:(a::l).Nodup):a∉l/\l.Nodup:=List.nodup_cons.mp h
def iD {a b:Bool}(h:(a&&b)=true):a=true/\b=true:=Bool.and_eq_true_iff.mp h
def iE {α:Type _}{x:Option α}(h:x.isSome=true):∃a,x=some a:=Option.isSome_iff_exists.mp h
def fI {b:Bool}(h:b≠true):b=false:=Bool.eq_false_iff.mpr h
def rI {m n:Nat}(h:m<n):m∈List.range n:=List.mem_range.mpr h
def cE {α:Type _}[BEq α][LawfulBEq α]{l:List α}{a:α}(h:l.contains a=true):a∈l:=List.contains_iff_mem.mp h
def cI {α:Type _}[BEq α][LawfulBEq α]{l:List α}{a:α}(h:a∈l):l.contains a=true:=List.contains_iff_mem.mpr h
def pE {α:Type _}{a:α}{s t:List α}(h:a∈s++t):a∈s\/a∈t:=List.mem_append.mp h
def XX {α β:Type _}{f:α->β}{l:List α}{b:β}(h:b∈l.map f):∃a,a∈l/\f a=b:=List.mem_map.mp h
def kE {α β:Type _}{f:α->β}{l:List α}{b:β}(h:∃a,a∈l/\f a=b):b∈l.map f:=List.mem_map.mpr h
def lQ {α:Type _}{R:α->α->Prop}{a:α}{l:List α}(h:(a::l).Pairwise R):(∀x∈l,R a x)/\l.Pairwise R:=List.pairwise_cons.mp h
def gW {n m:Nat}(h:m<=n):¬n<m:=Nat.not_lt.mpr h
def mS {α:Type _}{a:α}{l:List α}:a∈a::l:=List.mem_cons_self
def aT {α:Type _}(b:α){a:α}{l:List α}(h:a∈l):a∈b::l:=List.mem_cons_of_mem b h
def nT {n m k:Nat}(h:n<=m)(g:m<=k):n<=k:=Nat.le_trans h g
def nR (n:Nat):n<=n:=Nat.le_refl n
def nA {n m:Nat}(h:n<=m)(k:Nat):k+n<=k+m:=Nat.add_le_add_left h k
def oj {α:Type _}{a b:α}(h:some a=some b):a=b:=Option.some.inj h
def lM {α β:Type _}{l:List α}(f:α->β):(l.map f).length=l.length:=List.length_map f
def lS (n:Nat):n<=n+1:=Nat.le_succ n
def lA (n k:Nat):n<=n+k:=Nat.le_add_right n k
def lL {n m k:Nat}(h:n<m)(g:m<=k):n<k:=Nat.lt_of_lt_of_le h g
def lZ (n:Nat):0<=n:=Nat.zero_le n
def lB {n m:Nat}(h:n<=m):n<=m+1:=Nat.le_succ_of_le h
def cM {α:Type _}{l:List α}{i:Nat}(h:i<l.length):l[i]?=some l[i]:=List.getElem?_eq_getElem h
def dU {α:Type _}{l:List α}{i:Nat}{a:α}(h:l[i]?=some a):a∈l:=List.mem_of_getElem? h
def mM {α β:Type _}{a:α}{l:List α}{f:α->β}(h:a∈l):f a∈l.map f:=List.mem_map_of_mem h
def gi:false≠true:=Bool.false_ne_true
def dF {p:Prop}[s:Decidable p](h:¬p):decide p=false:=decide_eq_false h
def dT {p:Prop}[s:Decidable p](h:p):decide p=true:=decide_eq_true h
def cS {p:Prop}[s:Decidable p](h:decide p=true):p:=of_decide_eq_true h
set_option genSizeOf false
set_option genCtorIdx false
set_option backward.match.sparseCases false
open PySem
set_option genCtorIdx true in
inductive V where
 |none
 |bool (b:Bool)
 |int (i:Int)
 |str (s:Str)
 |tup (xs:List V)
 |list (xs:List V)
 |dict (S:List (V×V))
 |fH (a b:Int)
 |obj (k:Nat)
set_option genCtorIdx true in
inductive D where
 |int (i:Int)
 |str (s:Str)
 |tup (xs:List D)
mutual
noncomputable def D.beq:D->D->Bool
 |.int a,.int b=>a==b
 |.str a,.str b=>a==b
 |.tup a,.tup b=>D.jJ a b
 |_,_=>false
noncomputable def D.jJ:List D->List D->Bool
 |[],[]=>true
 |a::x,b::y=>D.beq a b&&D.jJ x y
 |_,_=>false
end
noncomputable def a_ {α β:Type}(f:α->Option β):List α->Option (List β)
 |[]=>some []
 |x::xs=>(f x).bind λy=>(a_ f xs).bind λys=>some (y::ys)
noncomputable def cp:Nat->V->Option D
 |_,.int i=>some (.int i)
 |_,.str s=>if PyData.strOk s then some (.str s) else none
 |n+1,.tup xs=>(a_ (cp n) xs).bind λds=>some (.tup ds)
 |_,_=>none
noncomputable def V.toD (v:V):Option D:=cp 8 v
noncomputable def h9:Nat->V->Option PyData
 |_,.none=>some .none
 |_,.bool b=>some (.bool b)
 |_,.int i=>some (.int i)
 |_,.str s=>if PyData.strOk s then some (.str s) else none
 |n+1,.tup xs=>(a_ (h9 n) xs).bind λds=>some (.tuple ds)
 |n+1,.list xs=>(a_ (h9 n) xs).bind λds=>some (.list ds)
 |_,_=>none
noncomputable def V.di (v:V):Option PyData:=h9 8 v
noncomputable def aY (n:Nat):Bool:=Nat.ble n 1048576
noncomputable def bQ (i:Int):Bool:=decide (-4611686018427387903<=i)&&decide (i<=4611686018427387903)
set_option genCtorIdx true in
inductive LV where
 |unset
 |val (v:V)
 |ml (xs:List V)
 |md (S:List (V×V))
inductive O where
 |list (xs:List V)
 |dict (S:List (V×V))
 |inst (cls:Str) (fs:List (Str×V))
structure St where
 objs:List (Nat×O)
 next:Nat
noncomputable def St.get (σ:St)(k:Nat):Option O:=σ.objs.lookup k
noncomputable def uH:List (Nat×O)->Nat->O->List (Nat×O)
 |[],k,o=>[(k,o)]
 |(j,p)::r,k,o=>if j==k then(j,o)::r else(j,p)::uH r k o
noncomputable def St.set (σ:St)(k:Nat)(o:O):St:=⟨uH σ.objs k o,σ.next⟩
noncomputable def St.alloc (σ:St)(o:O):St:=⟨uH σ.objs σ.next o,σ.next+1⟩
set_option genCtorIdx true in
inductive Bt where
 |len|range|sorted|tuple|dict|all|max|min|sum|int|str
inductive GV where
 |const (v:V)
 |fn (f:Nat×Nat)
 |cls (c:Str)
 |blt (b:Bt)
noncomputable abbrev bL:=List (Str×LV)
noncomputable def nv (s:String)(v:LV):Str×LV:=(.ofString s,v)
structure X where
 sc:List (Str×NameKind)
 vars:bL
 st:St
noncomputable def uI:bL->Str->LV->bL
 |[],x,v=>[(x,v)]
 |(y,w)::r,x,v=>if y==x then(y,v)::r else(y,w)::uI r x v
noncomputable def X.put (x:X)(n:Str)(v:LV):X:=⟨x.sc,uI x.vars n v,x.st⟩
noncomputable def X.at (x:X)(σ:St):X:=⟨x.sc,x.vars,σ⟩
noncomputable def LV.frozen:LV->Option V
 |.unset=>none
 |.val v=>some v
 |.ml xs=>some (.list xs)
 |.md S=>some (.dict S)
noncomputable def LV.own:LV->Bool
 |.ml _=>true
 |.md _=>true
 |_=>false
noncomputable def LV.set:LV->Option LV
 |.unset=>none
 |lv=>some lv
noncomputable def LV.plain:LV->Option V
 |.val v=>some v
 |_=>none
noncomputable def iN (k:Option NameKind):Bool:=k==some .local||k==some .cell||k==some .free
noncomputable def c8:V->Option Int
 |.int i=>some i
 |_=>none
noncomputable def strOf:V->Option Str
 |.str i=>some i
 |_=>none
noncomputable def Bm:V->Option (List V)
 |.tup i=>some i
 |_=>none
noncomputable def tZ:V->Option (List V)
 |.list i=>some i
 |_=>none
noncomputable def guard (b:Bool){α:Type}(a:Option α):Option α:=cond b a none
noncomputable def k8:V->Option Bool
 |.none=>some false
 |.bool b=>some b
 |.int i=>some (i !=0)
 |.str s=>guard (aY s.cps.size) (some (!s.cps.isEmpty))
 |.tup xs=>guard (aY xs.length) (some (!xs.isEmpty))
 |.list xs=>guard (aY xs.length) (some (!xs.isEmpty))
 |_=>none
noncomputable def kj (a b:V):Option Bool:=a.di.bind λx=>b.di.bind λy=>some (PyData.eqv x y)
noncomputable def dm (d:D):List (V×V)->Option V
 |[]=>none
 |e::r=>e.1.toD.bind λk=>cond (D.beq k d) (some e.2) (dm d r)
noncomputable def D.kind:D->Nat
 |.int _=>0
 |.str _=>1
 |.tup _=>2
noncomputable def alike (a b:D):Bool:=a.kind==b.kind
noncomputable def eo (S:List (V×V))(d:D):Bool:=match S with
 |[]=>true
 |e::_=>match e.1.toD with
  |some k=>alike k d
  |none=>false
noncomputable def dh (S:List (V×V))(k:V):Option (Option V):=k.toD.bind λd=>guard (eo S d) (some (dm d S))
noncomputable def hF (d:D)(k v:V):List (V×V)->List (V×V)
 |[]=>[(k,v)]
 |e::r=>match e.1.toD with
  |some j=>cond (D.beq j d) ((e.1,v)::r) (e::hF d k v r)
  |none=>e::r
noncomputable def gN (S:List (V×V))(k v:V):Option (List (V×V)):=k.toD.bind λd=>guard (aY S.length&&eo S d) (some (hF d k v S))
noncomputable def nW (v:V)(xs:List V):Option Bool:=v.di.bind λd=>(a_ (h9 7) xs).bind λds=>some (ds.any λe=>PyData.eqv e d)
noncomputable def isIn (v:V):LV->Option Bool
 |.unset=>none
 |.val w=>match w with
  |.tup xs=>nW v xs
  |.list xs=>nW v xs
  |.dict S=>(dh S v).map Option.isSome
  |_=>none
 |.ml xs=>nW v xs
 |.md S=>(dh S v).map Option.isSome
noncomputable def V.isNone:V->Bool
 |.none=>true
 |_=>false
noncomputable def rP (a b:V)(f:Int->Int->Bool)(g:List Nat->List Nat->Option Bool):Option Bool:=match a with
 |.int x=>(c8 b).bind λy=>some (f x y)
 |.str x=>(strOf b).bind λy=>g x.cps.toList y.cps.toList
 |_=>none
noncomputable def aN (op:CmpOp)(a:V)(b:LV):Option Bool:=match op with
 |.Eq=>b.plain.bind λb=>kj a b
 |.NotEq=>b.plain.bind λb=>(kj a b).map not
 |.Lt=>b.plain.bind λb=>rP a b (λx y=>decide (x<y)) λx y=>some (decide (x<y))
 |.LtE=>b.plain.bind λb=>rP a b (λx y=>decide (x<=y)) λx y=>some (!decide (y<x))
 |.Gt=>b.plain.bind λb=>rP a b (λx y=>decide (y<x)) λx y=>some (decide (y<x))
 |.GtE=>b.plain.bind λb=>rP a b (λx y=>decide (y<=x)) λ_ _=>none
 |.In=>isIn a b
 |.NotIn=>(isIn a b).map not
 |.Is=>b.plain.bind λb=>guard b.isNone (some a.isNone)
 |.IsNot=>b.plain.bind λb=>guard b.isNone (some (!a.isNone))
noncomputable def i2 (a b:V)(f:Int->Int->Option Int):Option LV:=(c8 a).bind λx=>(c8 b).bind λy=>(f x y).bind λz=>some (.val (.int z))
noncomputable def IQ (a b:V):Option LV:=match a with
 |.tup x=>(Bm b).bind λy=>guard (aY (x.length+y.length)) (some (.val (.tup (x++y))))
 |.list x=>(tZ b).bind λy=>guard (aY (x.length+y.length)) (some (.ml (x++y)))
 |a=>i2 a b λx y=>some (x+y)
noncomputable def IS (a b:V):Option LV:=match a with
 |.list x=>(c8 b).bind λy=>guard (decide (0<=y)&&decide (y<64)&&aY (x.length*64)) (some (.ml ((List.replicate y.toNat x).flatten)))
 |a=>i2 a b λx y=>guard (bQ x&&bQ y) (some (x*y))
noncomputable def fy (op:Operator)(a b:V):Option LV:=match op with
 |.Add=>IQ a b
 |.Sub=>i2 a b λx y=>some (x-y)
 |.Mult=>IS a b
 |.FloorDiv=>i2 a b λx y=>guard (y !=0&&decide (y.natAbs<1073741824)) (some (x.fdiv y))
 |.Mod=>i2 a b λx y=>guard (y !=0) (some (x.fmod y))
 |.Pow=>i2 a b λx y=>guard (x==2&&decide (0<=y)&&decide (y<64)) (some (2^y.toNat))
 |.BitAnd=>i2 a b λx y=>some (Builtin.bitAnd x y)
 |.BitOr=>i2 a b λx y=>some (Builtin.bitOr x y)
 |_=>none
noncomputable def xE (xs:List V)(i:Int):Option V:=guard (bQ i&&aY xs.length) (cond (decide (0<=i)) xs[i.toNat]? (guard (decide (-(xs.length:Int)<=i)) xs[(i+xs.length).toNat]?))
noncomputable def HK (n:Nat):Option Int->Option Nat
 |none=>some n
 |some h=>cond (h==-1) (some (n-1)) (guard (decide (0<=h)&&bQ h) (some (min h.toNat n)))
noncomputable def IT (n:Nat)(lo hi:Option Int):Option (Nat×Nat):=guard (aY n&&decide (0<=lo.getD 0)&&bQ (lo.getD 0)) ((HK n hi).bind λh=>some (min (lo.getD 0).toNat n,h))
noncomputable def yB {α:Type}(xs:List α)(lo hi:Option Int):Option (List α):=(IT xs.length lo hi).bind λp=>some ((xs.take p.2).drop p.1)
noncomputable def t5:LV->Option Nat
 |.val (.obj k)=>some k
 |_=>none
noncomputable def G3 (a:LV):Option O->LV
 |some (.list xs)=>.ml xs
 |some (.dict S)=>.md S
 |_=>a
noncomputable def hG (a:LV)(σ:St):LV:=match t5 a with
 |some n=>G3 a (σ.get n)
 |none=>a
noncomputable def t8 (xs:List V)(i:V):Option V:=(c8 i).bind (xE xs)
noncomputable def cz (a:LV)(i:V):Option V:=match a with
 |.unset=>none
 |.val v=>match v with
  |.tup xs=>t8 xs i
  |.list xs=>t8 xs i
  |.str s=>(c8 i).bind λi=>guard (decide (0<=i)&&bQ i) ((s.cps[i.toNat]?).bind λc=>some (.str ⟨#[c]⟩))
  |.dict S=>(dh S i).bind id
  |_=>none
 |.ml xs=>t8 xs i
 |.md S=>(dh S i).bind id
noncomputable def nX (a:V)(lo hi:Option Int):Option LV:=match a with
 |.tup xs=>(yB xs lo hi).bind λx=>some (.val (.tup x))
 |.list xs=>(yB xs lo hi).bind λx=>some (.ml x)
 |.str s=>(yB s.cps.toList lo hi).bind λx=>some (.val (.str ⟨x.toArray⟩))
 |_=>none
noncomputable def bA:V->Option (List V)
 |.tup xs=>some xs
 |.list xs=>some xs
 |.dict S=>some (S.map (·.1))
 |.fH a b=>guard (bQ a&&bQ b&&aY (b-a).toNat) (some ((List.range (b-a).toNat).map λi=>V.int (a+(i:Nat))))
 |.str s=>some (s.cps.toList.map λc=>.str ⟨#[c]⟩)
 |_=>none
noncomputable def fO {α:Type}(lt:α->α->Bool)(x:α):List α->List α
 |[]=>[x]
 |y::r=>cond (lt x y) (x::y::r) (y::fO lt x r)
noncomputable def bZ {α:Type}(lt:α->α->Bool):List α->List α
 |[]=>[]
 |x::r=>fO lt x (bZ lt r)
noncomputable def lR (x y:Int):Bool:=decide (x<y)
noncomputable def fR (x y:Str):Bool:=decide (x.cps.toList<y.cps.toList)
noncomputable def sorted (xs:List V):Option (List V):=match a_ c8 xs with
 |some is=>some ((bZ lR is).map .int)
 |none=>(a_ strOf xs).bind λss=>some ((bZ fR ss).map .str)
noncomputable def boolOf:V->Option Bool
 |.bool b=>some b
 |_=>none
noncomputable def allTrue (xs:List V):Option Bool:=(a_ boolOf xs).bind λbs=>some (bs.all id)
noncomputable def AG (s:Str):Option Int:=match s.cps.toList with
 |[c]=>guard (Nat.ble 48 c&&Nat.ble c 57) (some ((c-48:Nat):Int))
 |_=>none
noncomputable def one {α:Type}:List α->Option α
 |[a]=>some a
 |_=>none
noncomputable def iW {α:Type}:List α->Option (α×α)
 |[a,b]=>some (a,b)
 |_=>none
noncomputable def IU:LV->Option Nat
 |.unset=>none
 |.val v=>match v with
  |.tup xs=>some xs.length
  |.list xs=>some xs.length
  |.str s=>some s.cps.size
  |_=>none
 |.ml xs=>some xs.length
 |.md xs=>guard (eo xs (.int 0)) (some xs.length)
noncomputable def xF:V->Option (List (V×V))
 |.dict S=>some S
 |_=>none
noncomputable def RE:V->Option LV
 |.list xs=>guard (aY xs.length) (some (.val (.tup xs)))
 |.tup xs=>some (.val (.tup xs))
 |_=>none
noncomputable def blt (b:Bt)(as:List V):Option LV:=match b with
 |.len=>none
 |.range=>match as with
  |[n]=>(c8 n).bind λn=>guard (bQ n) (some (.val (.fH 0 n)))
  |[a,n]=>(c8 a).bind λa=>(c8 n).bind λn=>guard (bQ a&&bQ n) (some (.val (.fH a n)))
  |_=>none
 |.sorted=>(one as).bind λa=>(xF a).bind λS=>guard (decide (S.length<64)) ((sorted (S.map (·.1))).bind λxs=>some (.ml xs))
 |.tuple=>(one as).bind λa=>RE a
 |.dict=>(one as).bind λa=>(xF a).bind λS=>guard (aY S.length&&(eo S (.int 0)||eo S (.str ⟨#[]⟩))) (some (.md S))
 |.all=>(one as).bind λa=>(tZ a).bind λxs=>(allTrue xs).bind λb=>some (.val (.bool b))
 |.max=>(iW as).bind λp=>i2 p.1 p.2 λx y=>some (cond (decide (x<y)) y x)
 |.min=>(iW as).bind λp=>i2 p.1 p.2 λx y=>some (cond (decide (y<x)) y x)
 |.sum=>(one as).bind λa=>(tZ a).bind λxs=>(a_ c8 xs).bind λis=>guard (decide (is.length<=1024)&&is.all λi=>decide (0<=i)&&decide (i<=1048576)) (some (.val (.int is.sum)))
 |.int=>(one as).bind λa=>(strOf a).bind λs=>(AG s).bind λi=>some (.val (.int i))
 |.str=>(one as).bind λa=>(c8 a).bind λi=>guard (bQ i) (some (.val (.str (.ofString (toString i)))))
noncomputable def kW (a:LV):Option V:=(IU a).bind λn=>guard (aY n) (some (.int n))
noncomputable def pG:Str:=.ofString "get"
noncomputable def Fo:Str:=.ofString "replace"
noncomputable def eL:Str:=.ofString "append"
noncomputable def oU:Str:=.ofString "extend"
noncomputable def Bn:Str:=.ofString "__init__"
noncomputable def S4:LV->Option (List (V×V))
 |.val v=>xF v
 |.md S=>some S
 |_=>none
noncomputable def PZ (s:Str):Option Nat:=one s.cps.toList
noncomputable def qH (s:Str)(p:Str×Str):Option V:=(PZ p.1).bind λc=>guard (p.2.cps.isEmpty&&aY s.cps.size) (some (.str ⟨(s.cps.toList.filter (· !=c)).toArray⟩))
noncomputable def P0 (a:LV)(m:Str)(as:List V):Option V:=(S4 a).bind λS=>guard (m==pG) ((iW as).bind λp=>(dh S p.1).bind λx=>some (x.getD p.2))
noncomputable def mj:Const->Option V
 |.none=>some .none
 |.bool b=>some (.bool b)
 |.int i=>some (.int i)
 |.str s=>some (.str s)
 |_=>none
noncomputable abbrev Kt:=Option (LV×St)
noncomputable abbrev hU:=Nat×Nat->List V->St->Kt
noncomputable abbrev km:=Str->List V->St->Option (Nat×St)
noncomputable abbrev bp:=Expr->X->(LV->X->Kt)->Kt
noncomputable def nameOf:Expr->Option Str
 |.Name x _=>some x
 |_=>none
noncomputable def xl:List Expr->List V->Option (List (Str×V))
 |[],[]=>some []
 |e::S,v::T=>(nameOf e).bind λx=>(xl S T).bind λr=>some ((x,v)::r)
 |_,_=>none
noncomputable def j9:Expr->V->Option (List (Str×V))
 |.Name x _,v=>some [(x,v)]
 |.Tuple S _ _,v=>(Bm v).bind λT=>xl S T
 |_,_=>none
noncomputable def X.h_ (x:X):List (Str×V)->X
 |[]=>x
 |b::r=>(x.put b.1 (.val b.2)).h_ r
noncomputable def mQ:List (Str×V)->Str->V->List (Str×V)
 |[],x,v=>[(x,v)]
 |(y,w)::r,x,v=>if y==x then(y,v)::r else(y,w)::mQ r x v
noncomputable def cB (f:bp)(e:Expr)(x:X)(Z:V->X->Kt):Kt:=f e x λlv x=>lv.frozen.bind λv=>Z v x
noncomputable def ry (x:X)(e:Expr):Option Str:=match nameOf e with
 |some n=>cond (iN (x.sc.lookup n)) (some n) none
 |none=>none
noncomputable def kF (f:bp)(e:Expr)(x:X)(Z:LV->X->Kt):Kt:=match ry x e with
 |some n=>(x.vars.lookup n).bind λlv=>lv.set.bind λlv=>Z lv x
 |none=>f e x Z
noncomputable def xm:CmpOp->Bool
 |.In=>true
 |.NotIn=>true
 |_=>false
noncomputable def p9 (f:bp)(op:CmpOp)(e:Expr)(x:X)(Z:LV->X->Kt):Kt:=cond (xm op) (kF f e x Z) (cB f e x λv x=>Z (.val v) x)
noncomputable def iv (f:bp):List Expr->X->(List V->X->Kt)->Kt
 |[],x,Z=>Z [] x
 |e::S,x,Z=>cB f e x λv x=>iv f S x λT x=>Z (v::T) x
noncomputable def xG (f:bp)(e:Option Expr)(x:X)(Z:Option Int->X->Kt):Kt:=match e with
 |none=>Z none x
 |some e=>cB f e x λv x=>(c8 v).bind λi=>Z (some i) x
noncomputable def same:Bool->Bool->Bool
 |true,b=>b
 |false,b=>!b
noncomputable def xn (f:bp)(t:Bool):List Expr->X->(V->X->Kt)->Kt
 |[],_,_=>none
 |[e],x,Z=>cB f e x Z
 |e::e2::S,x,Z=>cB f e x λv x=>(k8 v).bind λb=>cond (same t b) (xn f t (e2::S) x Z) (Z v x)
noncomputable abbrev De:=Expr->X->(Bool->X->Kt)->Kt
noncomputable def rQ (g:De)(t:Bool):List Expr->X->(Bool->X->Kt)->Kt
 |[],x,Z=>Z t x
 |e::S,x,Z=>g e x λb x=>cond (same t b) (rQ g t S x Z) (Z b x)
noncomputable def qy (f:bp)(e:Expr)(x:X)(Z:Bool->X->Kt):Kt:=cB f e x λv x=>(k8 v).bind λb=>Z b x
noncomputable def ic (f:bp):Nat->De
 |0=>λ_ _ _=>none
 |d+1=>λe x Z=>match e with
  |.UnaryOp op y p=>match op with
   |.Not=>ic f d y x λb x=>Z (!b) x
   |op=>qy f (.UnaryOp op y p) x Z
  |.BoolOp op S _=>rQ (ic f d) (op==.And) S x Z
  |.IfExp _ _ _ _=>none
  |.Compare l ops rs p=>cond (ops.length==1&&rs.length==1) (qy f (.Compare l ops rs p) x Z) none
  |e=>qy f e x Z
noncomputable def tK (f:bp):List (Option Expr)->List Expr->List (V×V)->X->(List (V×V)->X->Kt)->Kt
 |[],[],acc,x,Z=>Z acc x
 |k::G,v::T,acc,x,Z=>k.bind λk=>cB f k x λkv x=>cB f v x λvv x=>(gN acc kv vv).bind λacc=>tK f G T acc x Z
 |_,_,_,_,_=>none
noncomputable def conv:LV->LV
 |.val v=>.val v
 |_=>.unset
noncomputable def sY (T:bL):bL:=T.map λx=>(x.1,conv x.2)
noncomputable def j5:Expr->List Str
 |.Name x _=>[x]
 |.Tuple S _ _=>S.filterMap nameOf
 |_=>[]
noncomputable def jD (names:List (Str×NameKind))(tg:Expr)(vars:bL)(σ:St):X:=⟨names,(j5 tg).map (λn=>(n,.unset))++sY vars,σ⟩
noncomputable def compTurn (f:bp)(tg elt:Expr)(ifs:List Expr)(names:List (Str×NameKind))(vars:bL)(v:V)(σ:St)(Z:Option V->St->Kt):Kt:=(j9 tg v).bind λbs=>rQ (ic f 8) true ifs ((jD names tg vars σ).h_ bs) λb x=>cond b (cB f elt x λw x=>Z (some w) x.st) (Z none x.st)
noncomputable def iY:Str:=.ofString "__debug__"
noncomputable def kG:Str:=.ofString "__classdict__"
noncomputable def wW (sc:Scope):Bool:=sc.kind==.function&&!sc.isCoroutine&&!sc.isGenerator&&(sc.names.lookup iY).isNone&&(sc.names.lookup kG).isNone&&sc.names.all λp=>sc.names.lookup p.1==some p.2
noncomputable def nL (sc:Scope)(tg:Expr)(e:X):Bool:=wW sc&&(sc.names.all λp=>p.2 !=.cell&&(p.2 !=.local||(j5 tg).contains p.1||(e.vars.lookup p.1).isNone)&&(p.2 !=.free||(e.sc.lookup p.1==some .cell&&(e.vars.lookup p.1).isSome)))&&
 ((j5 tg).all λx=>sc.names.lookup x==some .local)&&decide (j5 tg).Nodup
noncomputable def sZ (f:V->St->(Option V->St->Kt)->Kt):List V->St->(List V->St->Kt)->Kt
 |[],σ,Z=>Z [] σ
 |v::T,σ,Z=>f v σ λr σ=>sZ f T σ λxs σ=>Z (r.toList++xs) σ
noncomputable def S5 (k:Nat):Option O->Option (Nat×Str×List (Str×V))
 |some (.inst c fs)=>some (k,c,fs)
 |_=>none
noncomputable def jC (σ:St)(a:LV):Option (Nat×Str×List (Str×V)):=(t5 a).bind λk=>S5 k (σ.get k)
noncomputable def S6 (k:Nat):Option O->Option (Nat×List V)
 |some (.list xs)=>some (k,xs)
 |_=>none
noncomputable def listOf (σ:St)(a:LV):Option (Nat×List V):=(t5 a).bind λk=>S6 k (σ.get k)
noncomputable def S7 (k:Nat):Option O->Option (Nat×List (V×V))
 |some (.dict xs)=>some (k,xs)
 |_=>none
noncomputable def dictOf (σ:St)(a:LV):Option (Nat×List (V×V)):=(t5 a).bind λk=>S7 k (σ.get k)
noncomputable def fieldNames:List Str:=[Str.ofString "rows",.ofString "index",.ofString "decls",.ofString "bounds",.ofString "defaults",.ofString "names",.ofString "origins",.ofString "renamed",.ofString "shaping",
 .ofString "did",.ofString "kind",.ofString "name",.ofString "params",.ofString "body",.ofString "bases",.ofString "static",.ofString "extends_class",.ofString "abstract",.ofString "members",.ofString "variances",.ofString "busy",.ofString "at",.ofString "file",.ofString "nid",
 .ofString "tab",.ofString "deep",.ofString "most_rounds",.ofString "most_deep",.ofString "instances",.ofString "lib"]
noncomputable def je (n:Str):Bool:=fieldNames.contains n
noncomputable def kX:Expr->Bool
 |.Call _ _ _ _=>false
 |_=>true
noncomputable def j_:List (Str×GV):=([
 ("_wall",.fn (0,0)),
 ("Y_KEY",.const (.int 1)),
 ("Y_BOOL",.const (.int 2)),
 ("Y_STR",.const (.int 3)),
 ("Y_NUM",.const (.int 4)),
 ("Y_ENUM",.const (.int 5)),
 ("Y_UNION",.const (.int 6)),
 ("Y_INTER",.const (.int 7)),
 ("Y_OBJ",.const (.int 8)),
 ("Y_REF",.const (.int 9)),
 ("Y_PARAM",.const (.int 10)),
 ("Y_ARRAY",.const (.int 11)),
 ("Y_TUPLE",.const (.int 12)),
 ("Y_SIG",.const (.int 13)),
 ("Y_KEYOF",.const (.int 14)),
 ("Y_INDEX",.const (.int 15)),
 ("Y_COND",.const (.int 16)),
 ("Y_MAPPED",.const (.int 17)),
 ("Y_TPL",.const (.int 18)),
 ("Y_ALIAS",.const (.int 19)),
 ("ANY",.const (.int 0)),
 ("UNKNOWN",.const (.int 1)),
 ("NEVER",.const (.int 2)),
 ("VOID",.const (.int 3)),
 ("UNDEF",.const (.int 4)),
 ("NULLT",.const (.int 5)),
 ("STRING",.const (.int 6)),
 ("NUMBER",.const (.int 7)),
 ("FALSE_T",.const (.int 8)),
 ("TRUE_T",.const (.int 9)),
 ("OBJECTT",.const (.int 10)),
 ("EMPTY",.const (.int 11)),
 ("ERR",.const (.int 13)),
 ("FRESH_F",.const (.int 14)),
 ("FRESH_T",.const (.int 15)),
 ("P_OPT",.const (.int 1)),
 ("P_READONLY",.const (.int 2)),
 ("P_METHOD",.const (.int 4)),
 ("P_PRIVATE",.const (.int 8)),
 ("P_PROTECTED",.const (.int 16)),
 ("P_GETONLY",.const (.int 32)),
 ("E_NEED",.const (.int 0)),
 ("E_OPT",.const (.int 1)),
 ("E_REST",.const (.int 2)),
 ("E_SPREAD",.const (.int 3)),
 ("FAM_OTHER",.const (.int 0)),
 ("FAM_STR",.const (.int 1)),
 ("FAM_NUM",.const (.int 2)),
 ("FAM_BOOL",.const (.int 3)),
 ("FAM_NULL",.const (.int 4)),
 ("FAM_UNDEF",.const (.int 5)),
 ("FAM_VOID",.const (.int 6)),
 ("FAM_OBJ",.const (.int 7)),
 ("MAX_UNION",.const (.int 400)),
 ("FIRST_ROWS",.const (.tup [.tup [.int 1,.str "any"],.tup [.int 1,.str "unknown"],.tup [.int 1,.str "never"],.tup [.int 1,.str "void"],.tup [.int 1,.str "undefined"],.tup [.int 1,.str "null"],.tup [.int 1,.str "string"],.tup [.int 1,.str "number"],.tup [.int 2,.int 0,.int 0],.tup [.int 2,.int 1,.int 0],.tup [.int 1,.str "object"],.tup [.int 8,.tup [],.tup [],.tup [],.tup [],.tup [],.int 0],.tup [.int 6,.tup [.int 8,.int 9]],.tup [.int 1,.str "error"],.tup [.int 2,.int 0,.int 1],.tup [.int 2,.int 1,.int 1]])),
 ("LITERAL_ROWS",.const (.tup [.int 2,.int 3,.int 4,.int 5])),
 ("MARKED_ROWS",.const (.tup [.int 2,.int 3,.int 4,.int 5,.int 8])),
 ("OBJECT_ROWS",.const (.tup [.int 8,.int 9,.int 11,.int 12,.int 13])),
 ("KEY_FAMILIES",.const (.dict [(.int 3,.int 6),(.int 4,.int 5),(.int 5,.int 4),(.int 6,.int 1),(.int 7,.int 2),(.int 10,.int 7)])),
 ("TypeTable",.cls "TypeTable"),
 ("Decl",.cls "Decl"),
 ("kind_of",.fn (66,0)),
 ("str_type",.fn (67,0)),
 ("num_type",.fn (68,0)),
 ("array_type",.fn (69,0)),
 ("last_mark",.fn (70,0)),
 ("needed_to_last",.fn (71,0)),
 ("one_rest",.fn (72,0)),
 ("tuple_type",.fn (73,0)),
 ("sorted_props",.fn (74,0)),
 ("obj_type",.fn (75,0)),
 ("sig_type",.fn (76,0)),
 ("func_type",.fn (77,0)),
 ("new_param",.fn (78,0)),
 ("new_decl",.fn (79,0)),
 ("parts_of",.fn (80,0)),
 ("whole_of_row",.fn (81,0)),
 ("regular_twin",.fn (82,0)),
 ("join_bools",.fn (83,0)),
 ("stays_beside",.fn (84,0)),
 ("top_of",.fn (85,0)),
 ("union",.fn (86,0)),
 ("add_undef",.fn (87,0)),
 ("is_literal",.fn (88,0)),
 ("is_unit",.fn (89,0)),
 ("is_fresh",.fn (90,0)),
 ("regular_one",.fn (91,0)),
 ("regular",.fn (92,0)),
 ("common_family",.fn (93,0)),
 ("meet_family",.fn (94,0)),
 ("family",.fn (95,0)),
 ("is_nullish_family",.fn (96,0)),
 ("MAX_DRAWN",.const (.int 200)),
 ("MEET_NEVER",.const (.int 0)),
 ("MEET_LEFT",.const (.int 1)),
 ("MEET_RIGHT",.const (.int 2)),
 ("MEET_BOTH",.const (.int 3)),
 ("all_units",.fn (103,0)),
 ("all_values",.fn (104,0)),
 ("units_clash",.fn (105,0)),
 ("flat_props",.fn (106,0)),
 ("shapes_clash",.fn (107,0)),
 ("meet_nullish",.fn (108,0)),
 ("meet_values",.fn (109,0)),
 ("meet_objects",.fn (110,0)),
 ("meet_case",.fn (111,0)),
 ("lay_on",.fn (112,0)),
 ("members_of_meet",.fn (113,0)),
 ("meet_parts",.fn (114,0)),
 ("meet_two",.fn (115,0)),
 ("inter",.fn (116,0)),
 ("value_holds",.fn (117,0)),
 ("units_fit",.fn (118,0)),
 ("prop_dict",.fn (120,0)),
 ("met_kind",.fn (121,0)),
 ("met_prop",.fn (122,0)),
 ("met_index",.fn (123,0)),
 ("met_rows",.fn (124,0)),
 ("meet_shape",.fn (125,0)),
 ("MOST_ROUNDS",.const (.int 200)),
 ("MOST_SHAPES",.const (.int 40)),
 ("PLAIN_ROWS",.const (.tup [.int 1,.int 2,.int 3,.int 4,.int 5])),
 ("plain_shape",.fn (132,0)),
 ("tuple_need",.fn (133,0)),
 ("tuple_most",.fn (134,0)),
 ("elem_read",.fn (135,0)),
 ("row_elem",.fn (136,0)),
 ("length_prop",.fn (137,0)),
 ("place_prop",.fn (138,0)),
 ("told_places",.fn (139,0)),
 ("list_decl",.fn (140,0)),
 ("list_shape",.fn (141,0)),
 ("find_prop",.fn (142,0)),
 ("is_digits",.fn (143,0)),
 ("is_number_name",.fn (144,0)),
 ("prop_of_list",.fn (145,0)),
 ("prop_row",.fn (146,0)),
 ("read_type",.fn (147,0)),
 ("late_place",.fn (148,0)),
 ("index_read",.fn (149,0)),
 ("prop_of_parts",.fn (150,0)),
 ("prop_type",.fn (151,0)),
 ("index_of",.fn (152,0)),
 ("put_each",.fn (154,0)),
 ("put_cell",.fn (155,0)),
 ("put_shape",.fn (156,0)),
 ("plainput_put_elems",.fn (157,0)),
 ("put_call",.fn (158,0)),
 ("put_late",.fn (159,0)),
 ("plain_put",.fn (160,0)),
 ("TOP_NUMBER",.const (.int 9007199254740991)),
 ("OPEN_KINDS",.const (.tup [.int 10,.int 14,.int 15,.int 16,.int 17,.int 19])),
 ("is_open",.fn (164,0)),
 ("unit_word",.fn (165,0)),
 ("key_text",.fn (166,0)),
 ("digits_back",.fn (167,0)),
 ("picked",.fn (169,0)),
 ("is_public",.fn (170,0)),
 ("shape_keys",.fn (171,0)),
 ("list_keys",.fn (172,0)),
 ("keys_of_parts",.fn (173,0)),
 ("deferred_keys",.fn (174,0)),
 ("keys_of",.fn (175,0)),
 ("index_parts",.fn (176,0)),
 ("kindkeys_open_index",.fn (177,0)),
 ("list_index",.fn (178,0)),
 ("sign_index",.fn (179,0)),
 ("closed_index",.fn (180,0)),
 ("index_kind",.fn (181,0)),
 ("settle_keys",.fn (182,0)),
 ("key_shape",.fn (183,0)),
 ("KeyHost",.cls "KeyHost"),
 ("_law_values",.const (.dict [(.tup [.int 3,.str "a",.int 0],.int 1),(.tup [.int 4,.int 0,.int 0],.int 2),(.tup [.int 4,.int 1,.int 0],.int 4),(.tup [.int 4,.int 2,.int 0],.int 8),(.tup [.int 4,.int 3,.int 0],.int 16),(.tup [.int 1,.str "null"],.int 32),(.tup [.int 1,.str "undefined"],.int 64),(.tup [.int 2,.int 1,.int 0],.int 128),(.tup [.int 1,.str "string"],.int 257),(.tup [.int 1,.str "number"],.int 542)])),
 ("_law_names",.const (.dict [(.tup [.int 3,.str "p",.int 0],.int 1),(.tup [.int 3,.str "q",.int 0],.int 2),(.tup [.int 3,.str "0",.int 0],.int 4),(.tup [.int 3,.str "1",.int 0],.int 8),(.tup [.int 3,.str "2",.int 0],.int 16),(.tup [.int 3,.str "length",.int 0],.int 32),(.tup [.int 1,.str "string"],.int 127),(.tup [.int 1,.str "number"],.int 128)])),
 ("_law_masks",.fn (188,0)),
 ("_law_flags",.fn (189,0)),
 ("_law_wholes",.fn (190,0)),
 ("_law_queries",.fn (191,0)),
 ("_law_firsts",.fn (192,0)),
 ("_law_draw",.fn (193,0)),
 ("_law_part",.fn (194,0)),
 ("_law_kind",.fn (195,0)),
 ("_law_told",.fn (196,0)),
 ("_law_object",.fn (197,0)),
 ("_law_list",.fn (198,0)),
 ("_law_meet",.fn (199,0)),
 ("_law_source",.fn (200,0)),
 ("_law_has",.fn (201,0)),
 ("_law_in_tuple",.fn (202,0)),
 ("_law_at",.fn (203,0)),
 ("_law_over",.fn (204,0)),
 ("_law_key",.fn (205,0)),
 ("_law_stays",.fn (206,0)),
 ("law",.fn (207,0)),
 ("len",.blt .len),
 ("range",.blt .range),
 ("sorted",.blt .sorted),
 ("tuple",.blt .tuple),
 ("dict",.blt .dict),
 ("all",.blt .all),
 ("min",.blt .min),
 ("max",.blt .max),
 ("sum",.blt .sum),
 ("int",.blt .int),
 ("str",.blt .str)]:List (String×GV)).map λp=>(.ofString p.1,p.2)
noncomputable def f5:List (Str×List (Str×(Nat×Nat))):=[
 (.ofString "TypeTable",[(.ofString "__init__",(64,1)),(.ofString "row",(64,2)),(.ofString "put",(64,3))]),
 (.ofString "Decl",[(.ofString "__init__",(65,1))]),
 (.ofString "KeyHost",[(.ofString "__init__",(184,1)),(.ofString "force",(184,2)),(.ofString "put_deferred",(184,3)),(.ofString "shape",(184,4)),(.ofString "put_in",(184,5)),(.ofString "list_prop",(184,6)),(.ofString "list_index",(184,7)),(.ofString "fits",(131,3)),(.ofString "lies",(131,4)),(.ofString "put_cond",(130,4)),(.ofString "lay_row",(130,5)),(.ofString "bound",(130,6)),(.ofString "infers",(130,9)),(.ofString "tpl_fits",(130,10)),(.ofString "shape_fits",(130,11)),(.ofString "own_sig",(130,13))])]
noncomputable def ai (x:Str):Option GV:=j_.lookup x
noncomputable def nM (c m:Str):Option (Nat×Nat):=(f5.lookup c).bind λt=>t.lookup m
noncomputable def sj (sc:List (Str×NameKind))(x:Str):Option GV:=cond (sc.lookup x==some .globalImplicit) (ai x) none
noncomputable def GV.constOf:GV->Option V
 |.const v=>some v
 |_=>none
section
variable(call:hU) (new:km)
noncomputable def xo (n:Str)(x:X)(Z:LV->X->Kt):Kt:=cond (iN (x.sc.lookup n))
 ((x.vars.lookup n).bind λlv=>lv.frozen.bind λv=>Z (.val v) (cond lv.own (x.put n (.val v)) x))
 ((sj x.sc n).bind λg=>g.constOf.bind λv=>Z (.val v) x)
noncomputable def yC (op:UnaryOp)(v:V):Option V:=match op with
 |.USub=>(c8 v).bind λi=>some (.int (-i))
 |.Not=>(k8 v).bind λb=>some (.bool (!b))
 |_=>none
noncomputable def x_ (f:bp)(op:CmpOp)(a:V)(r:Expr)(x:X)(Z:LV->X->Kt):Kt:=p9 f op r x λb x=>(aN op a (hG b x.st)).bind λt=>Z (.val (.bool t)) x
noncomputable def ya (f:bp)(fJ dJ:CmpOp)(a:V)(r1 r2:Expr)(x:X)(Z:LV->X->Kt):Kt:=cond (behindInMarks dJ r2) none (cB f r1 x λb x=>(aN fJ a (.val b)).bind λc=>cond c (x_ f dJ b r2 x Z) (Z (.val (.bool c)) x))
noncomputable def Bo (f:bp)(l:Expr)(ops:List CmpOp)(rs:List Expr)(x:X)(Z:LV->X->Kt):Kt:=cB f l x λa x=>match ops with
  |[op]=>(one rs).bind λr=>x_ f op a r x Z
  |[fJ,dJ]=>(iW rs).bind λr=>ya f fJ dJ a r.1 r.2 x Z
  |_=>none
noncomputable def P9 (f:bp)(e:Expr)(lo hi:Option Expr)(x:X)(Z:LV->X->Kt):Kt:=cB f e x λa x=>xG f lo x λl x=>xG f hi x λh x=>(nX a l h).bind λv=>Z v x
noncomputable def Bp (f:bp)(e i:Expr)(x:X)(Z:LV->X->Kt):Kt:=kF f e x λa x=>cB f i x λk x=>(cz (hG a x.st) k).bind λv=>Z (.val v) x
noncomputable def Bq (f:bp)(e i:Expr)(x:X)(Z:LV->X->Kt):Kt:=match i with
 |.Slice lo hi st _=>match st with
  |none=>P9 f e lo hi x Z
  |some _=>none
 |i=>Bp f e i x Z
noncomputable def AH (f:bp)(e:Expr)(n:Str)(x:X)(Z:LV->X->Kt):Kt:=cB f e x λa x=>(jC x.st (.val a)).bind λp=>(guard (je n) (p.2.2.lookup n)).bind λv=>Z (.val v) x
noncomputable def xH (f:bp)(as:List Expr)(x:X)(Z:LV->X->Kt):Kt:=(one as).bind λa=>kF f a x λlv x=>(kW (hG lv x.st)).bind λv=>Z (.val v) x
noncomputable def xI:Bt->Bool
 |.len=>true
 |_=>false
noncomputable def S8 (f:bp)(b:Bt)(as:List Expr)(x:X)(Z:LV->X->Kt):Kt:=cond (xI b) (xH f as x Z) (iv f as x λT x=>(blt b T).bind λlv=>Z lv x)
noncomputable def Ak (f:bp)(n:Str)(as:List Expr)(x:X)(Z:LV->X->Kt):Kt:=(sj x.sc n).bind λg=>match g with
  |.fn i=>iv f as x λT x=>(call i T x.st).bind λr=>Z r.1 (x.at r.2)
  |.cls c=>iv f as x λT x=>(new c T x.st).bind λr=>Z (.val (.obj r.1)) (x.at r.2)
  |.blt b=>S8 f b as x Z
  |.const _=>none
noncomputable def nK (σ:St)(k:Nat)(xs:List V)(m:Str)(T:List V):Kt:=(one T).bind λv=>guard (m==eL&&aY xs.length) (some (.val .none,σ.set k (.list (xs++[v]))))
noncomputable def AI (a:LV)(m:Str):Bool:=match a with
 |.unset=>false
 |.val v=>match v with
  |.dict _=>m==pG
  |_=>false
 |.md _=>m==pG
 |.ml _=>m==eL
noncomputable def jg (a:LV)(m:Str)(T:List V)(σ:St):Kt:=match listOf σ a with
  |some p=>nK σ p.1 p.2 m T
  |none=>(P0 (hG a σ) m T).bind λv=>some (.val v,σ)
noncomputable def zL:Expr->Option Str
 |.Constant c _ _=>match c with
  |.str s=>some s
  |_=>none
 |_=>none
noncomputable def s6 (m:Str)(as:List Expr):Option (Str×Str):=guard (m==Fo) ((iW as).bind λp=>(zL p.1).bind λa=>(zL p.2).bind λb=>some (a,b))
noncomputable def qQ (a:LV)(p:Str×Str)(x:X)(Z:LV->X->Kt):Kt:=a.plain.bind λv=>(strOf v).bind λs=>(qH s p).bind λw=>Z (.val w) x
noncomputable def Al (f:bp)(e:Expr)(m:Str)(as:List Expr)(x:X)(Z:LV->X->Kt):Kt:=kF f e x λa x=>match jC x.st a with
   |some p=>(guard (p.2.2.lookup m).isNone (nM p.2.1 m)).bind λi=>iv f as x λT x=>(call i (.obj p.1::T) x.st).bind λr=>Z r.1 (x.at r.2)
   |none=>match s6 m as with
    |some p=>qQ a p x Z
    |none=>guard (AI (hG a x.st) m) (iv f as x λT x=>(jg a m T x.st).bind λr=>Z r.1 (x.at r.2))
noncomputable def AJ (f:bp)(fn:Expr)(as:List Expr)(pos:Pos)(x:X)(Z:LV->X->Kt):Kt:=match fn with
 |.Name n _=>Ak call new f n as x Z
 |.Attribute e m apos=>guard (kX e&&decide (as.length<30)&&apos.endLine==pos.line) (Al call f e m as x Z)
 |_=>none
noncomputable def xp (f:bp)(elt tg it:Expr)(ifs:List Expr)(sc:Scope)(x:X)(Z:LV->X->Kt):Kt:=guard (nL sc tg x) (cB f it x λv x=>(bA v).bind λxs=>guard (aY xs.length&&nL sc tg x) (sZ (compTurn f tg elt ifs sc.names x.vars) xs x.st λT σ=>Z (.ml T) (x.at σ)))
noncomputable def AK (f:bp)(elt:Expr)(gens:List Comprehension)(sc:Scope)(x:X)(Z:LV->X->Kt):Kt:=(one gens).bind λg=>guard (g.is_async==0) (xp f elt g.target g.iter g.ifs sc x Z)
noncomputable def qT (f:bp)(e:Expr)(x:X)(Z:LV->X->Kt):Kt:=match e with
 |.Constant c _ _=>(mj c).bind λv=>Z (.val v) x
 |.Name n _=>xo n x Z
 |.BinOp l op r _=>cB f l x λa x=>cB f r x λb x=>(fy op a b).bind λv=>Z v x
 |.UnaryOp op e _=>cB f e x λv x=>(yC op v).bind λv=>Z (.val v) x
 |.BoolOp op S _=>xn f (op==.And) S x λv x=>Z (.val v) x
 |.Compare l ops rs _=>Bo f l ops rs x Z
 |.IfExp t b o _=>ic f 8 t x λc x=>cond c (f b x Z) (f o x Z)
 |.Subscript e i _=>Bq f e i x Z
 |.Attribute e n _=>guard (kX e) (AH f e n x Z)
 |.Tuple S _ _=>iv f S x λT x=>guard (aY T.length) (Z (.val (.tup T)) x)
 |.List S _=>iv f S x λT x=>guard (aY T.length) (Z (.ml T) x)
 |.Dict G T _=>guard (decide (G.length<=15)) (tK f G T [] x λS x=>Z (.md S) x)
 |.Call fn as oA pos=>guard oA.isEmpty (AJ call new f fn as pos x Z)
 |.ListComp elt gens sc _=>AK f elt gens sc x Z
 |_=>none
noncomputable def ev:Nat->bp
 |0=>λ_ _ _=>none
 |d+1=>qT call new (ev d)
set_option genCtorIdx true in
inductive Fl where
 |next|brk|cont
 |ret (v:LV)
noncomputable abbrev gj:=Stmt->X->(Fl->X->Kt)->Kt
noncomputable def Fl.seq (fl:Fl)(x:X)(go:Kt)(Z:Fl->X->Kt):Kt:=match fl with
 |.next=>go
 |fl=>Z fl x
noncomputable def Fl.turn (fl:Fl)(x:X)(go:Kt)(Z:Fl->X->Kt):Kt:=match fl with
 |.next=>go
 |.cont=>go
 |.brk=>none
 |.ret v=>Z (.ret v) x
noncomputable def fg (g:gj):List Stmt->X->(Fl->X->Kt)->Kt
 |[],x,Z=>Z .next x
 |s::ss,x,Z=>g s x λfl x=>fl.seq x (fg g ss x Z) Z
noncomputable def qK (b:V->X->(Fl->X->Kt)->Kt):List V->X->(Fl->X->Kt)->Kt
 |[],x,Z=>Z .next x
 |v::T,x,Z=>b v x λfl x=>fl.turn x (qK b T x Z) Z
noncomputable def Fl.RF (fl:Fl)(go:Kt):Kt:=match fl with
 |.next=>go
 |_=>none
noncomputable def sQ (t:X->(Bool->X->Kt)->Kt)(b:X->(Fl->X->Kt)->Kt):Nat->X->(Fl->X->Kt)->Kt
 |0,_,_=>none
 |n+1,x,Z=>t x λc x=>cond c (b x λfl x=>fl.RF (sQ t b n x Z)) (Z .next x)
noncomputable def EL (x:Str):Bool:=x==.ofString "a"||x==.ofString "b"
noncomputable def RG:Expr->Option Expr
 |.List S _=>one S
 |_=>none
noncomputable def qU (n:Str)(e:Expr):Option Expr:=cond (EL n) (RG e) none
noncomputable def sR:Expr->Option O
 |.List S _=>match S with
  |[]=>some (.list [])
  |[e]=>match e with
   |.Constant c _ _=>match c with
    |.none=>some (.list [.none])
    |_=>none
   |_=>none
  |_=>none
 |.Dict G T _=>guard (G.isEmpty&&T.isEmpty) (some (.dict []))
 |_=>none
noncomputable def X.has (e:X)(x:Str):Bool:=(e.sc.lookup x==some .local||e.sc.lookup x==some .cell)&&(e.vars.lookup x).isSome
noncomputable def X.hasAll (x:X)(bs:List (Str×V)):Bool:=bs.all λb=>x.has b.1
noncomputable def X.alloc (x:X)(o:O):X:=⟨x.sc,x.vars,x.st.alloc o⟩
noncomputable def X.iQ (x:X)(k:Nat)(o:O):X:=⟨x.sc,x.vars,x.st.set k o⟩
noncomputable def tq (f:bp)(n:Str)(e:Expr)(x:X)(Z:Fl->X->Kt):Kt:=match qU n e with
 |some e=>cB f e x λv x=>guard (x.has n) (Z .next ((x.alloc (.list [v])).put n (.val (.obj x.st.next))))
 |none=>f e x λlv x=>guard (x.has n) (Z .next (x.put n lv))
noncomputable def zM (f:bp)(t e:Expr)(x:X)(Z:Fl->X->Kt):Kt:=cB f e x λv x=>(j9 t v).bind λbs=>guard (x.hasAll bs) (Z .next (x.h_ bs))
noncomputable def tu (f:bp)(e:Expr)(n:Str)(r:Expr)(x:X)(Z:Fl->X->Kt):Kt:=match sR r with
 |some o=>cB f e (x.alloc o) λa y=>(jC y.st (.val a)).bind λp=>guard (je n) (Z .next (y.iQ p.1 (.inst p.2.1 (mQ p.2.2 n (.obj x.st.next)))))
 |none=>cB f r x λv x=>cB f e x λa x=>(jC x.st (.val a)).bind λp=>guard (je n) (Z .next (x.iQ p.1 (.inst p.2.1 (mQ p.2.2 n v))))
noncomputable def Wy:Option LV->Option (List (V×V))
 |some (.md S)=>some S
 |_=>none
noncomputable def yb (x:X)(n:Str):Option (Str×List (V×V)):=guard (x.has n) ((Wy (x.vars.lookup n)).bind λS=>some (n,S))
noncomputable def xJ (x:X)(e:Expr):Option (Str×List (V×V)):=(nameOf e).bind λn=>yb x n
noncomputable def tw (a:LV)(k v:V)(x:X)(Z:Fl->X->Kt):Kt:=match dictOf x.st a with
 |some p=>(gN p.2 k v).bind λS=>Z .next (x.iQ p.1 (.dict S))
 |none=>(listOf x.st a).bind λp=>(one p.2).bind λ_=>(c8 k).bind λi=>guard (i==0) (Z .next (x.iQ p.1 (.list [v])))
noncomputable def RH (f:bp)(n:Str)(i:Expr)(v:V)(x:X)(Z:Fl->X->Kt):Kt:=cB f i x λk x=>(yb x n).bind λp=>(gN p.2 k v).bind λS=>Z .next (x.put n (.md S))
noncomputable def AL (f:bp)(e i r:Expr)(x:X)(Z:Fl->X->Kt):Kt:=cB f r x λv x=>match xJ x e with
 |some p=>RH f p.1 i v x Z
 |none=>cB f e x λa x=>cB f i x λk x=>tw (.val a) k v x Z
noncomputable def t9:Expr->Bool
 |.Tuple _ _ _=>true
 |_=>false
noncomputable def zN (f:bp)(t e:Expr)(x:X)(Z:Fl->X->Kt):Kt:=match t with
 |.Name n _=>tq f n e x Z
 |.Tuple S k p=>cond (t9 e) none (zM f (.Tuple S k p) e x Z)
 |.Attribute a n _=>tu f a n e x Z
 |.Subscript a i _=>AL f a i e x Z
 |_=>none
noncomputable def HL (op:Operator)(x y:Int):Option Int:=match op with
 |.Add=>some (x+y)
 |.BitOr=>some (Builtin.bitOr x y)
 |_=>none
noncomputable def Br (f:bp)(n:Str)(op:Operator)(e:Expr)(x:X)(Z:Fl->X->Kt):Kt:=guard (iN (x.sc.lookup n)) ((x.vars.lookup n).bind λlv=>lv.plain.bind λa=>(c8 a).bind λi=>cB f e x λb x=>(c8 b).bind λj=>(HL op i j).bind λr=>guard (x.has n) (Z .next (x.put n (.val (.int r)))))
noncomputable def grown (m:Str)(xs:List V)(v:V):Option (List V):=cond (m==eL) (guard (aY xs.length) (some (xs++[v])))
 (cond (m==oU) ((tZ v).bind λys=>guard (aY (xs.length+ys.length)) (some (xs++ys))) none)
noncomputable def Wz:Option LV->Option (List V)
 |some (.ml S)=>some S
 |_=>none
noncomputable def uJ (x:X)(n:Str):Option (Str×List V):=guard (x.has n) ((Wz (x.vars.lookup n)).bind λS=>some (n,S))
noncomputable def S9 (x:X)(e:Expr):Option (Str×List V):=(nameOf e).bind λn=>uJ x n
structure IV where
 n:Str
 m:Str
 arg:Expr
noncomputable def ownCall (x:X):Expr->Option IV
 |.Call fn as oA pos=>match fn with
  |.Attribute y m apos=>(S9 x y).bind λp=>(one as).bind λa=>guard (oA.isEmpty&&apos.endLine==pos.line) (some ⟨p.1,m,a⟩)
  |_=>none
 |_=>none
noncomputable def tL (f:bp)(e:Expr)(x:X)(Z:Fl->X->Kt):Kt:=match ownCall x e with
 |some o=>cB f o.arg x λv x=>(uJ x o.n).bind λp=>(grown o.m p.2 v).bind λxs=>Z .next (x.put o.n (.ml xs))
 |none=>guard (!kX e) (f e x λlv x=>lv.plain.bind λv=>guard (v.isNone||(c8 v).isSome) (Z .next x))
noncomputable def oV (g:gj)(tg:Expr)(b:List Stmt)(v:V)(x:X)(Z:Fl->X->Kt):Kt:=(j9 tg v).bind λbs=>guard (x.hasAll bs) (fg g b (x.h_ bs) Z)
noncomputable def HM (f:bp)(g:gj)(tg it:Expr)(b:List Stmt)(x:X)(Z:Fl->X->Kt):Kt:=cB f it x λv x=>(bA v).bind λxs=>qK (oV g tg b) xs x Z
noncomputable def Bu (f:bp)(e:Option Expr)(x:X)(Z:Fl->X->Kt):Kt:=match e with
 |none=>Z (.ret (.val .none)) x
 |some e=>kF f e x λlv x=>Z (.ret lv) x
noncomputable def AM (f:bp)(g:gj)(s:Stmt)(x:X)(Z:Fl->X->Kt):Kt:=match s with
 |.Assign ts e _=>(one ts).bind λt=>zN f t e x Z
 |.AugAssign t op e _=>(nameOf t).bind λn=>Br f n op e x Z
 |.For tg it b o _=>guard o.isEmpty (HM f g tg it b x Z)
 |.While t b o _=>guard o.isEmpty (sQ (ic f 8 t) (fg g b) 16 x Z)
 |.If t b o _=>ic f 8 t x λc x=>cond c (fg g b x Z) (fg g o x Z)
 |.Return v _=>Bu f v x Z
 |.Continue _=>Z .cont x
 |.Pass _=>Z .next x
 |.Expr e _=>tL f e x Z
 |_=>none
noncomputable def ex:Nat->gj
 |0=>λ_ _ _=>none
 |d+1=>AM (ev call new 40) (ex d)
end
noncomputable def bindArgs (U:List Str)(ds args:List V):Option (List (Str×LV)):=guard (decide (args.length<=U.length)&&decide (U.length-args.length<=ds.length)) (some (U.zip ((args++ds.drop (ds.length-(U.length-args.length))).map .val)))
noncomputable def o9:Expr->Option V
 |.Constant c _ _=>mj c
 |.UnaryOp op e _=>match op with
  |.USub=>match e with
   |.Constant c _ _=>(mj c).bind λv=>(c8 v).bind λi=>some (.int (-i))
   |_=>none
  |_=>none
 |.Tuple S _ _=>guard S.isEmpty (some (.tup []))
 |_=>none
structure fK where
 params:List Str
 xK:List Expr
 body:List Stmt
 scope:Scope
noncomputable def JK:Stmt->Option fK
 |.FunctionDef _ a b _ _ _ sc _ _ _=>some ⟨a.args.map (·.arg),a.defaults,b,sc⟩
 |_=>none
noncomputable def j6:List Stmt:=pw.main.body
noncomputable def P_:Stmt->List Stmt
 |.ClassDef _ _ _ b _ _ _ _ _ _ _=>b
 |_=>[]
noncomputable def kY (i:Nat×Nat):Option Stmt:=j6[i.1]?.bind λs=>match i.2 with
 |0=>some s
 |j+1=>(P_ s)[j]?
noncomputable def k9:List ((Nat×Nat)×(Option Str×Str)):=(j_.filterMap λp=>match p.2 with
  |.fn i=>some (i,none,p.1)
  |_=>none)++f5.flatMap λc=>c.2.map λm=>(m.2,some c.1,m.1)
noncomputable def jn (i:Nat×Nat):Option fK:=(k9.lookup i).bind λ_=>(kY i).bind JK
noncomputable def qz (sc:List (Str×NameKind)):bL:=(sc.filter λx=>x.2==.local||x.2==.cell).map λx=>(x.1,.unset)
noncomputable def putAll:bL->List (Str×LV)->bL
 |T,[]=>T
 |T,(x,v)::r=>putAll (uI T x v) r
noncomputable def qW:List Str->Bool
 |[]=>true
 |x::r=>!r.contains x&&qW r
noncomputable def fK.ok (i:fK):Bool:=wW i.scope&&qW i.params&&qW (i.scope.names.map (·.1))&&i.params.all λp=>i.scope.names.lookup p==some .local||i.scope.names.lookup p==some .cell
noncomputable def Cn (fl:Fl)(x:X):Kt:=match fl with
 |.ret lv=>lv.set.bind λlv=>some (lv,x.st)
 |.next=>some (.val .none,x.st)
 |_=>none
noncomputable def Bv (call:hU)(new:km)(i:fK)(args:List V)(σ:St):Kt:=(a_ o9 i.xK).bind λds=>(bindArgs i.params ds args).bind λbs=>fg (ex call new 12) i.body ⟨i.scope.names,putAll (qz i.scope.names) bs,σ⟩ Cn
noncomputable def Gd:LV->Bool
 |.val v=>v.isNone
 |_=>false
noncomputable def f_ (call:hU):km:=λc args σ=>(nM c Bn).bind λi=>(call i (.obj σ.next::args) (σ.alloc (.inst c []))).bind λr=>guard (Gd r.1) (some (σ.next,r.2))
noncomputable def ae:Nat->hU
 |0=>λ_ _ _=>none
 |n+1=>λi args σ=>(jn i).bind λf=>Bv (ae n) (f_ (ae n)) f args σ
def nV {a b:V}{p:Prop}(h:a=b)(k:Nat.beq a.ctorIdx b.ctorIdx=false):p:=si (congrArg V.ctorIdx h) k
def XY {a b:LV}{p:Prop}(h:a=b)(k:Nat.beq a.ctorIdx b.ctorIdx=false):p:=si (congrArg LV.ctorIdx h) k
def nD {a b:D}{p:Prop}(h:a=b)(k:Nat.beq a.ctorIdx b.ctorIdx=false):p:=si (congrArg D.ctorIdx h) k
def yD {a b:Fl}{p:Prop}(h:a=b)(k:Nat.beq a.ctorIdx b.ctorIdx=false):p:=si (congrArg Fl.ctorIdx h) k

def kH {P:Prop}(h:false=true):P:=nomatch h
def bD {α:Type}{a:α}{P:Prop}(h:(none:Option α)=some a):P:=aF h
def zO:(∀a b:D,D.beq a b=true↔a=b)/\(∀a b:List D,D.jJ a b=true↔a=b):=by
 have nil:∀b:List D,D.jJ [] b=true↔[]=b:=λb=>by
  induction b with
  |nil=>exact ⟨λ_=>rfl,λ_=>rfl⟩
  |cons y ys=>exact ⟨aS,mP⟩
 have cons:∀{x:D}{xs:List D},(∀b,D.beq x b=true↔x=b)->(∀b,D.jJ xs b=true↔xs=b)->∀b:List D,D.jJ (x::xs) b=true↔x::xs=b:=λJL JM b=>by
  induction b with
  |nil=>exact ⟨aS,og⟩
  |cons y ys=>exact ⟨λh=>gK h λa c=>((JL y).mp a).symm▸((JM ys).mp c).symm▸rfl,λh=>Bool.and_eq_true_iff.mpr ⟨(JL y).mpr (List.cons.inj h).1,(JM ys).mpr (List.cons.inj h).2⟩⟩
 have key:∀a:D,∀b:D,D.beq a b=true↔a=b:=by
  intro a;refine D.rec (motive_2:=λa=>∀b:List D,D.jJ a b=true↔a=b) ?_ ?_ ?_ nil (λx xs=>cons) a
  ·intro i b
   cases b with
   |int j=>exact ⟨λh=>congrArg D.int (bE h),λh=>bI (D.int.inj h)⟩
   |_=>exact ⟨aS,λh=>nD h rfl⟩
  ·intro i b
   cases b with
   |str j=>exact ⟨λh=>congrArg D.str (bE h),λh=>bI (D.str.inj h)⟩
   |_=>exact ⟨aS,λh=>nD h rfl⟩
  ·intro xs ih b
   cases b with
   |tup ys=>exact ⟨λh=>congrArg D.tup ((ih ys).mp h),λh=>(ih ys).mpr (D.tup.inj h)⟩
   |_=>exact ⟨aS,λh=>nD h rfl⟩
 refine ⟨key,λa=>?_⟩
 induction a with
 |nil=>exact nil
 |cons x xs ih=>exact cons (key x) ih
def D.beq_iff {a b:D}:D.beq a b=true↔a=b:=zO.1 a b
def D.zP (a:D):D.beq a a=true:=D.beq_iff.mpr rfl
def D.AN {a b:D}(h:a≠b):D.beq a b=false:=fI λq=>h (D.beq_iff.mp q)
section
variable(w:World)
mutual
noncomputable def jE:D->Int
 |.int i=>hashInt i
 |.str s=>hashStr w s
 |.tup ds=>reduceHash (Builtin.Tuple.tupleHashOf (nN ds))
noncomputable def nN:List D->List Int
 |[]=>[]
 |d::ds=>jE d::nN ds
end
end
mutual
noncomputable def xq:D->Nat
 |.int _=>1
 |.str _=>1
 |.tup ds=>qM ds+1
noncomputable def qM:List D->Nat
 |[]=>0
 |d::ds=>xq d+qM ds
end
mutual
noncomputable def D.di:D->PyData
 |.int i=>.int i
 |.str s=>.str s
 |.tup ds=>.tuple (D.fC ds)
noncomputable def D.fC:List D->List PyData
 |[]=>[]
 |d::ds=>D.di d::D.fC ds
end
def kZ (S:List (V×V)):Prop:=∃ds:List D,a_ (λe=>cp 8 e.1) S=some ds/\ds.Nodup/\∀a∈ds,∀b∈ds,alike a b=true
structure Gh where
 I:Addr->Option Obj
 ρ:List (Addr×Addr)
structure Gh.Le (g g':Gh):Prop where
 I:∀b o,g.I b=some o->g'.I b=some o
 ρ:g.ρ<+:g'.ρ
def Gh.In (g:Gh)(h:Heap):Prop:=∀b o,g.I b=some o->h.get? b=some o
def Gh.Le.refl (g:Gh):g.Le g:=⟨λ_ _ e=>e,List.prefix_refl _⟩
def Gh.Le.trans {a b c:Gh}(x:a.Le b)(y:b.Le c):a.Le c:=⟨λd o e=>y.I d o (x.I d o e),x.ρ.trans y.ρ⟩
def Gh.Le.at {g g':Gh}(x:g.Le g'){k:Nat}{p:Addr×Addr}(h:g.ρ[k]?=some p):g'.ρ[k]?=some p:=by exact aM x.ρ λt e=>e▸(List.getElem?_append_left (dR h).1).symm▸h.symm▸rfl
noncomputable abbrev lobj (T:Array Value)(n:Nat):Obj:={cls:=.type "list",data:=.seq T n}
section
variable(w:World) (g:Gh)
mutual
inductive VR:V->Value->Prop
 |none:VR .none .none
 |bool (b:Bool):VR (.bool b) (.bool b)
 |int (i:Int) (t:Tok):VR (.int i) (.int i t)
 |str (s:Str) (t:Tok):VR (.str s) (.str s t)
 |tup {xs:List V} {a:Addr} {o:Obj} {T:Array Value} {n:Nat}:g.I a=some o->o.cls=.type "tuple"->o.data=.seq T n->aO xs T.toList->VR (.tup xs) (.ref a)
 |list {xs:List V} {a:Addr} {T:Array Value} {n:Nat}:g.I a=some (lobj T n)->aO xs T.toList->VR (.list xs) (.ref a)
 |dict {S:List (V×V)} {a:Addr} {o:Obj} {ds:Array DictEntry} {ep:Nat}:g.I a=some o->o.ExactDict/\o.data=.dict ds ep/\kZ S/\(a==sysModules)=false->dW S ds.toList->VR (.dict S) (.ref a)
 |fH {a b:Int} {r:Addr} {t u v:Tok}:g.I r=some {cls:=.type "range",dict:=none,data:=.fields #[.int a t,.int b u,.int 1 v],slots:=#[]}->VR (.fH a b) (.ref r)
 |obj {k:Nat} {a d:Addr}:g.ρ[k]?=some (a,d)->VR (.obj k) (.ref a)
inductive aO:List V->List Value->Prop
 |nil:aO [] []
 |cons {x:V} {v:Value} {xs:List V} {T:List Value}:VR x v->aO xs T->aO (x::xs) (v::T)
inductive dW:List (V×V)->List DictEntry->Prop
 |nil:dW [] []
 |cons {k v:V} {e:DictEntry} {S:List (V×V)} {ds:List DictEntry} {d:D}:VR k e.key->cp 8 k=some d->e.hash=jE w d->VR v e.val->dW S ds->dW ((k,v)::S) (e::ds)
end
def DR (h:Heap)(a:Addr)(S:List (V×V)):Prop:=∃o ds ep,h.get? a=some o/\(o.ExactDict/\o.data=.dict ds ep/\kZ S/\(a==sysModules)=false)/\dW w g S ds.toList
def fh (h:Heap)(a:Addr)(xs:List V):Prop:=∃T n,h.get? a=some (lobj T n)/\aO w g xs T.toList
end
section
variable{w:World} {g g':Gh}
def Bw (l:g.Le g'):(∀{x v},VR w g x v->VR w g' x v)/\(∀{x v},aO w g x v->aO w g' x v)/\(∀{x v},dW w g x v->dW w g' x v):=
 ⟨λh=>VR.rec (motive_1:=λx v _=>VR w g' x v) (motive_2:=λx v _=>aO w g' x v) (motive_3:=λx v _=>dW w g' x v) .none .bool .int .str (λa b c _ d=>.tup (l.I _ _ a) b c d) (λa _ d=>.list (l.I _ _ a) d) (λa b _ d=>.dict (l.I _ _ a) b d) (λa=>.fH (l.I _ _ a)) (λa=>.obj (l.at a)) .nil (λ_ _ a b=>.cons a b) .nil (λ_ b c _ _ a d e=>.cons a b c d e) h,
  λh=>aO.rec (motive_2:=λx v _=>aO w g' x v) (motive_3:=λx v _=>dW w g' x v) .none .bool .int .str (λa b c _ d=>.tup (l.I _ _ a) b c d) (λa _ d=>.list (l.I _ _ a) d) (λa b _ d=>.dict (l.I _ _ a) b d) (λa=>.fH (l.I _ _ a)) (λa=>.obj (l.at a)) .nil (λ_ _ a b=>.cons a b) .nil (λ_ b c _ _ a d e=>.cons a b c d e) h,
  λh=>dW.rec (motive_2:=λx v _=>aO w g' x v) .none .bool .int .str (λa b c _ d=>.tup (l.I _ _ a) b c d) (λa _ d=>.list (l.I _ _ a) d) (λa b _ d=>.dict (l.I _ _ a) b d) (λa=>.fH (l.I _ _ a)) (λa=>.obj (l.at a)) .nil (λ_ _ a b=>.cons a b) .nil (λ_ b c _ _ a d e=>.cons a b c d e) h⟩
def VR.mono {x:V}{v:Value}(h:VR w g x v)(l:g.Le g'):VR w g' x v:=(Bw l).1 h
def aO.mono {x:List V}{v:List Value}(h:aO w g x v)(l:g.Le g'):aO w g' x v:=(Bw l).2.1 h
def dW.mono {x:List (V×V)}{v:List DictEntry}(h:dW w g x v)(l:g.Le g'):dW w g' x v:=(Bw l).2.2 h
def DR.mono {h h':Heap}{a:Addr}{S:List (V×V)}(x:DR w g h a S)(l:g.Le g')(k:∀o,h.get? a=some o->h'.get? a=some o):DR w g' h' a S:=fA x λo ds ep p q r=>(gf o ds ep (k o p) q (r.mono l))
def fh.mono {h h':Heap}{a:Addr}{S:List V}(x:fh w g h a S)(l:g.Le g')(k:∀o,h.get? a=some o->h'.get? a=some o):fh w g' h' a S:=aG x λT n p q=>(ax T n (k _ p) (q.mono l))
noncomputable def HN (w:World)(g:Gh)(v:Value):V->Prop
 |.none=>v=.none
 |.bool b=>v=.bool b
 |.int i=>∃t,v=.int i t
 |.str s=>∃t,v=.str s t
 |.tup xs=>∃a o T n,v=.ref a/\g.I a=some o/\o.cls=.type "tuple"/\o.data=.seq T n/\aO w g xs T.toList
 |.list xs=>∃a T n,v=.ref a/\g.I a=some (lobj T n)/\aO w g xs T.toList
 |.dict S=>∃a o ds ep,v=.ref a/\g.I a=some o/\(o.ExactDict/\o.data=.dict ds ep/\kZ S/\(a==sysModules)=false)/\dW w g S ds.toList
 |.fH a b=>∃r t u y,v=.ref r/\g.I r=some {cls:=.type "range",dict:=none,data:=.fields #[.int a t,.int b u,.int 1 y],slots:=#[]}
 |.obj k=>∃a d,v=.ref a/\g.ρ[k]?=some (a,d)
def VR.shape {x:V}{v:Value}(h:VR w g x v):HN w g v x:=VR.casesOn (motive_1:=λx v _=>HN w g v x) h rfl (λ_=>rfl) (λ_ t=>⟨t,rfl⟩) (λ_ t=>⟨t,rfl⟩) (λa b c d=>(Wu _ _ _ _ rfl a b c d)) (λa b=>(gf _ _ _ rfl a b)) (λa b c=>(kh _ _ _ _ rfl a b c)) (λa=>(pF _ _ _ _ rfl a)) (λa=>(ax _ _ rfl a))
def VR.da {i:Int}{v:Value}(h:VR w g (.int i) v):∃t,v=.int i t:=h.shape
def VR.Ge {i:Bool}{v:Value}(h:VR w g (.bool i) v):v=.bool i:=h.shape
def VR.none_of {v:Value}(h:VR w g .none v):v=.none:=h.shape
def VR.j7 {i:Str}{v:Value}(h:VR w g (.str i) v):∃t,v=.str i t:=h.shape
def VR.qY {xs:List V}{v:Value}(h:VR w g (.tup xs) v):∃a o T n,v=.ref a/\g.I a=some o/\o.cls=.type "tuple"/\o.data=.seq T n/\aO w g xs T.toList:=h.shape
def VR.tM {k:Nat}{v:Value}(h:VR w g (.obj k) v):∃a d,v=.ref a/\g.ρ[k]?=some (a,d):=h.shape
def VR.RI {a b:Int}{x:Value}(h:VR w g (.fH a b) x):∃r t u y,x=.ref r/\g.I r=some {cls:=.type "range",dict:=Option.none,data:=.fields #[.int a t,.int b u,.int 1 y],slots:=#[]}:=h.shape
def VR.qZ {h:Heap}(ag:g.In h){xs:List V}{u:Value}(x:VR w g (.tup xs) u):∃a T,u=.ref a/\IsTup h a T/\aO w g xs T.toList:=by refine x5 x.qY λa _ T n e i c d r=>?_;exact aD a T e ⟨_,ag _ _ i,c,n,d⟩ r
def VR.kU {h:Heap}(ag:g.In h){xs:List V}{u:Value}(x:VR w g (.list xs) u):∃a,u=.ref a/\fh w g h a xs:=by refine fA x.shape λa T n e i r=>?_;exact ⟨a,e,T,n,ag _ _ i,r⟩
def VR.qN {h:Heap}(ag:g.In h){S:List (V×V)}{u:Value}(x:VR w g (.dict S) u):∃a,u=.ref a/\DR w g h a S:=by refine oe x.shape λa o ds ep e i c r=>?_;exact ⟨a,e,o,ds,ep,ag _ _ i,c,r⟩
noncomputable def G4 (w:World)(g:Gh)(T:List Value):List V->Prop
 |[]=>T=[]
 |x::xs=>∃v us,T=v::us/\VR w g x v/\aO w g xs us
def aO.shape {xs:List V}{T:List Value}(h:aO w g xs T):G4 w g T xs:=aO.casesOn (motive_2:=λx v _=>G4 w g v x) h rfl λa b=>aD _ _ rfl a b
def aO.nil_of {T:List Value}(h:aO w g [] T):T=[]:=h.shape
def aO.cons_of {x:V}{xs:List V}{T:List Value}(h:aO w g (x::xs) T):∃v us,T=v::us/\VR w g x v/\aO w g xs us:=h.shape
def aO.AO {xs:List V}(h:aO w g xs []):xs=[]:=by
 induction xs with
 |nil=>rfl
 |cons x xs=>refine aG h.cons_of λ_ _ e _=>?_;exact mP e
def aO.length {xs:List V}:∀{T:List Value},aO w g xs T->xs.length=T.length:=by
 induction xs with
 |nil=>intro T h;refine h.nil_of.symm▸?_;rfl
 |cons x xs ih=>intro T h;(refine aw h.cons_of λv us cx _ r=>?_;subst cx);exact List.length_cons.symm▸List.length_cons.symm▸(ih r).symm▸rfl
def aO.eD {xs:List V}{T:Array Value}(x:aO w g xs T.toList):xs.length=T.size:=x.length.trans Array.length_toList
def aO.get {xs:List V}:∀{T:List Value},aO w g xs T->∀{i:Nat}{x:V},xs[i]?=some x->∃v,T[i]?=some v/\VR w g x v:=by
 induction xs with
 |nil=>intro T h i x e;simp at e
 |cons y xs ih=>
  intro T h i x e;(refine aw h.cons_of λv us cG a r=>?_;subst cG)
  induction i with
  |zero=>obtain rfl:=oj e;exact af v rfl a
  |succ i=>exact ih r e
def aO.get' {xs:List V}{T:List Value}(r:aO w g xs T){i:Nat}{v:Value}(h:T[i]?=some v):∃x,xs[i]?=some x/\VR w g x v:=by have hi:=r.length▸(dR h).1;exact aq (r.get (cM hi)) λu H M=>af _ (cM hi) (oj (H.symm.trans h)▸M)
def aO.append {xs ys:List V}:∀{T us:List Value},aO w g xs T->aO w g ys us->aO w g (xs++ys) (T++us):=by
 induction xs with
 |nil=>intro T us h k;refine h.nil_of.symm▸?_;exact k
 |cons x xs ih=>intro T us h k;(refine aw h.cons_of λv us jw a r=>?_;subst jw);exact .cons a (ih r k)
def aO.take {n:Nat}:∀{xs:List V}{T:List Value},aO w g xs T->aO w g (xs.take n) (T.take n):=by
 induction n with
 |zero=>intro xs T _;exact .nil
 |succ n ih=>
  intro xs T h
  induction xs with
  |nil=>refine h.nil_of.symm▸?_;exact .nil
  |cons x xs=>(refine aw h.cons_of λv us eV a b=>?_;subst eV);exact .cons a (ih b)
def aO.drop {n:Nat}:∀{xs:List V}{T:List Value},aO w g xs T->aO w g (xs.drop n) (T.drop n):=by
 induction n with
 |zero=>intro xs T h;exact h
 |succ n ih=>
  intro xs T h
  induction xs with
  |nil=>refine h.nil_of.symm▸?_;exact .nil
  |cons x xs=>(refine aw h.cons_of λv us dn a b=>?_;subst dn);exact ih b
def jB {α β:Type}{f:α->Option β}{x:α}{xs:List α}{ys:List β}(h:a_ f (x::xs)=some ys):∃y zs,ys=y::zs/\f x=some y/\a_ f xs=some zs:=aH h λy a h=>aH h λzs b h=>(aD y zs ((oj h).symm) a b)
def Oo {α β:Type}{f:α->Option β}{xs:List α}:∀{ys:List β},a_ f xs=some ys->∀{x:α},x∈xs->∃y,y∈ys/\f x=some y:=by
 induction xs with
 |nil=>intro ys _ x h;nomatch h
 |cons a xs ih=>
  intro ys h x Y;(refine aw (jB h) λy zs gP a1 a2=>?_;subst gP);rcases mE Y with rfl|Y
  ·exact af y mS a1
  ·refine aq (ih a2 Y) λz z1 z2=>?_;exact af z (aT _ z1) z2
structure Rd (h:Heap)(v:Value)(d:PyData)(n:Nat):Prop where
 reads:∃as,Reads h v d as
 lay:d.canLay0=true
 deep:d.depth<=n
structure JN (h:Heap)(T:List Value)(ds:List PyData)(n:Nat):Prop where
 reads:∃as,ReadsAll h T ds as
 lay:PyData.canLayAll0 ds=true
 deep:PyData.depthAll ds<=n
set_option tactic.hygienic true in
def tN {h:Heap}(ag:g.In h){x:V}{v:Value}(r:VR w g x v):∀{n:Nat}{d:PyData},h9 n x=some d->Rd h v d n:=by
 refine VR.rec (motive_1:=λx v _=>∀{n:Nat}{d:PyData},h9 n x=some d->Rd h v d n) (motive_2:=λx v _=>∀{n:Nat}{d:List PyData},a_ (h9 n) x=some d->JN h v d n) (motive_3:=λx v _=>True) ?_ ?_ ?_ ?_ ?_ ?_ ?_ ?_ ?_ ?_ ?_ trivial (λ_ _ _ _ _ _ _ _=>trivial) r
 ·intro n d e;obtain rfl:.none=d:=oj (by cases n<;>exact e);exact ⟨⟨_,.none⟩,rfl,lZ _⟩
 ·intro b n d e;obtain rfl:.bool b=d:=oj (by cases n<;>exact e);exact ⟨(eg _ (.bool b)),rfl,lZ _⟩
 ·intro i t n d e;obtain rfl:.int i=d:=oj (by cases n<;>exact e);exact ⟨(eg _ (.int i t)),rfl,lZ _⟩
 ·intro s t n d e;have e:(if PyData.strOk s=true then some (PyData.str s) else Option.none)=some d:=by cases n<;>exact e
  split at e
  ·rename_i q;obtain rfl:=oj e;exact ⟨(eg _ (.str s t)),q,lZ _⟩
  ·exact aF e
 ·intro xs a o T m i c hd r ih n d e
  cases n with
  |zero=>exact aF e
  |succ n=>refine aH e λds H M=>?_;obtain rfl:=oj M;obtain ⟨⟨as,x⟩,y,z⟩:=ih H;exact ⟨(eg _ (.tuple (ag _ _ i) c hd x)),y,Nat.succ_le_succ z⟩
 ·intro xs a T m i r ih n d e
  cases n with
  |zero=>exact aF e
  |succ n=>refine aH e λds H M=>?_;obtain rfl:=oj M;obtain ⟨⟨as,x⟩,y,z⟩:=ih H;exact ⟨(eg _ (.list (ag _ _ i) rfl rfl x)),y,Nat.succ_le_succ z⟩
 ·intro S a o ds ep i c r _ n d e;cases n<;>exact aF e
 ·intro a b r t u v i n d e;cases n<;>exact aF e
 ·intro k a d i n d e;cases n<;>exact aF e
 ·intro n d e;obtain rfl:=oj e;exact ⟨(eg _ .nil),rfl,lZ _⟩
 ·intro x v xs T _ _ oC oD n d e;refine bc λS_=>?_;(refine aw (jB e) λy zs Ta H M=>?_;subst Ta);obtain ⟨⟨as,x1⟩,x2,x3⟩:=oC H;obtain ⟨⟨bs,y1⟩,y2,y3⟩:=oD M;refine S_ ?_;exact ⟨(eg _ (.cons x1 y1)),Bool.and_eq_true_iff.mpr ⟨x2,y2⟩,Nat.max_le.mpr ⟨x3,y3⟩⟩
def Qa {h:Heap}(ag:g.In h){xs:List V}:∀{T:List Value},aO w g xs T->∀{n:Nat}{d:List PyData},a_ (h9 n) xs=some d->JN h T d n:=by
 induction xs with
 |nil=>intro T r n d e;(injection e with q_;subst q_);refine r.nil_of.symm▸?_;exact ⟨⟨_,.nil⟩,rfl,lZ _⟩
 |cons x xs ih=>intro T r n d e;refine bc λTc=>?_;obtain ⟨v,us,rfl,a,r⟩:=r.cons_of;(refine aw (jB e) λy zs Td H M=>?_;subst Td);obtain ⟨⟨as,x1⟩,x2,x3⟩:=tN ag a H;obtain ⟨⟨bs,y1⟩,y2,y3⟩:=ih r M;refine Tc ?_;exact ⟨(eg _ (.cons x1 y1)),Bool.and_eq_true_iff.mpr ⟨x2,y2⟩,Nat.max_le.mpr ⟨x3,y3⟩⟩
end
set_option genInjectivity false
def D.Gf (a:D):∀b:D,(a.di=b.di->a=b)/\PyData.eqv a.di b.di=D.beq a b:=by
  refine D.rec
   (motive_2:=λa=>∀b:List D,(D.fC a=D.fC b->a=b)/\PyData.eqvAll (D.fC a) (D.fC b)=D.jJ a b) ?_ ?_ ?_ ?_ ?_ a
  ·intro i b
   cases b with
   |int j=>exact ⟨λh=>by rw [PyData.int.inj h],rfl⟩
   |_=>exact ⟨(λh=>nomatch h),rfl⟩
  ·intro i b
   cases b with
   |str j=>exact ⟨λh=>by rw [PyData.str.inj h],rfl⟩
   |_=>exact ⟨(λh=>nomatch h),rfl⟩
  ·intro xs ih b
   cases b with
   |tup j=>exact ⟨λh=>((ih j).1 (PyData.tuple.inj h)).symm▸rfl,(ih j).2⟩
   |_=>exact ⟨(λh=>nomatch h),rfl⟩
  ·intro b
   induction b with
   |nil=>exact ⟨λ_=>rfl,rfl⟩
   |cons y ys=>exact ⟨(λh=>mP h),rfl⟩
  ·intro x xs oC oD b
   induction b with
   |nil=>exact ⟨(λh=>og h),rfl⟩
   |cons y ys=>
    refine ⟨λh=>?_,?_⟩
    ·exact ay (List.cons.inj h) λH M=>((oC y).1 H).symm▸((oD ys).1 M).symm▸rfl
    ·show(PyData.eqv x.di y.di&&PyData.eqvAll (D.fC xs) (D.fC ys))=_;refine ((oC y).2).symm▸((oD ys).2).symm▸?_;rfl
noncomputable def Te (h:Heap)(v:Value):D->Prop
 |.int i=>∃t,v=.int i t
 |.str i=>∃t,v=.str i t
 |.tup ds=>∃a o T n,v=.ref a/\h.get? a=some o/\o.cls=.type "tuple"/\o.data=.seq T n/\∃bs,ReadsAll h T.toList (D.fC ds) bs
def o_ {h:Heap}{v:Value}{d:D}{as:List Addr}(r:Reads h v d.di as):Te h v d:=by
 cases d with
 |int i=>cases r;exact ⟨_,rfl⟩
 |str i=>cases r;exact ⟨_,rfl⟩
 |tup ds=>cases r;exact ⟨_,_,_,_,rfl,by assumption,by assumption,by assumption,_,by assumption⟩
def keysAt {h:Heap}{T:List Value}{ds:List D}{as:List Addr}(r:ReadsAll h T (D.fC ds) as):match T with
  |[]=>ds=[]
  |v::T=>∃d S a bs,ds=d::S/\Reads h v d.di a/\ReadsAll h T (D.fC S) bs:=by
 cases ds with
 |nil=>cases r;rfl
 |cons d S=>cases r;exact x8 d S _ _ rfl (by assumption) (by assumption)
def La {h h':Heap}{d:Addr}{o:Obj}{S ep}(ho:h.get? d=some o)(hd:o.data=.dict S ep)(hs:Heap.SameBut d h h')(x:D):
  ∀{v:Value}{as:List Addr},Reads h v x.di as->∃as,Reads h' v x.di as:=by
 refine D.rec (motive_1:=λx=>∀{v:Value}{as:List Addr},Reads h v x.di as->∃as,Reads h' v x.di as)
  (motive_2:=λxs=>∀{T:List Value}{as:List Addr},ReadsAll h T (D.fC xs) as->∃as,ReadsAll h' T (D.fC xs) as) ?_ ?_ ?_ ?_ ?_ x
 ·intro i v as r;obtain ⟨t,rfl⟩:=o_ r;exact eg _ (.int i t)
 ·intro i v as r;obtain ⟨t,rfl⟩:=o_ r;exact eg _ (.str i t)
 ·intro xs ih v as r;refine bc λpH=>?_;obtain ⟨a,o',T,n,rfl,k1,k2,k3,bs,k4⟩:=o_ r;have ng:a≠d:=by
   rintro rfl;replace k3:=hd▸(oj (k1.symm.trans ho))▸k3;exact Ww k3 rfl
  obtain ⟨cs,q⟩:=ih k4;exact pH (eg _ (.tuple ((hs.2 a ng).trans k1) k2 k3 q))
 ·intro T as r;have q:=keysAt r
  induction T with
  |nil=>exact eg _ .nil
  |cons v T=>refine n_ q λ_ _ _ _ q _=>?_;exact mP q
 ·intro y ys oC oD T as r
  induction T with
  |nil=>exact og (keysAt r)
  |cons v T=>refine bc λTf=>gJ (keysAt r) λd S a bs e q1 q2=>?_;(injection e with q_ dq;subst q_;subst dq);obtain ⟨_,r1⟩:=oC q1;obtain ⟨_,r2⟩:=oD q2;exact Tf (eg _ (.cons r1 r2))
section
variable{prog:Program} {w:World}
abbrev HO (A:Around):Prop:=A.units+200<cLine
def RJ:∀(n:Nat)(d:D){A:Around}{E:Value->Shared->Prop}{s:Shared}{v:Value}{as:List Addr}{Q:Bool->Shared->Prop},
  Reads s.heap v d.di as->d.di.depth<=n->Q true s->wpAny (model prog w) A (eqIsQuiet n v) Q E s:=by
 intro n
 induction n with
 |zero=>
  intro d A E s v as Q r hd h;have r:=o_ r
  cases d with
  |int i=>obtain ⟨t,rfl⟩:=r;exact wpAny_pure h
  |str i=>obtain ⟨t,rfl⟩:=r;exact wpAny_pure h
  |tup ds=>exact absurd hd (Nat.not_succ_le_zero _)
 |succ n ih=>
  intro d A E s v as Q r hd h;have r:=o_ r
  cases d with
  |int i=>obtain ⟨t,rfl⟩:=r;exact wpAny_pure h
  |str i=>obtain ⟨t,rfl⟩:=r;exact wpAny_pure h
  |tup ds=>
   obtain ⟨a,o,T,k,rfl,k1,k2,k3,bs,k4⟩:=r;unfold eqIsQuiet;refine wpAny_bind (wpAny_specialOf (af o k1 k2) F.slot_tuple_eq.lookup (wpAny_bind (wpAny_isInstance (af o k1 k2) isSubtype_tuple_tuple (wpAny_bind (wpAny_seqItems k1 k3 (wpAny_bind ?_))))));rw [<-Array.forIn_toList];refine wpAny_forIn_list _ (λrest r s'=>r.1=none/\s'=s/\∃(gn:List D) (bs:List Addr),ReadsAll s.heap rest (D.fC gn) bs/\PyData.depthAll (D.fC gn)<=n) _ ?_ ?_ _ _
    ⟨rfl,rfl,ds,_,k4,(Nat.le_of_succ_le_succ hd)⟩
   ·rintro x rest r s' ⟨hr,rfl,gn,bs,Df,lT⟩;(refine gJ (keysAt Df) λd S _ _ Tg r1 r2=>?_;subst Tg);have lT:max (PyData.depth d.di) (PyData.depthAll (D.fC S))<=n:=lT;exact wpAny_bind (ih d r1 (nT (Nat.le_max_left _ _) lT) (wpAny_pure ⟨rfl,rfl,S,_,r2,nT (Nat.le_max_right _ _) lT⟩))
   ·rintro ⟨r1,r2⟩ s' ⟨rfl,rfl,_⟩;exact wpAny_pure h
def Kz (w:World)(a b:List D):nN w (a++b)=nN w a++nN w b:=by
 induction a with
 |nil=>rfl
 |cons x xs ih=>exact congrArg (jE w x::·) ih
def Kw (a b:List D):qM (a++b)=qM a+qM b:=by
 induction a with
 |nil=>exact (Nat.zero_add _).symm
 |cons x xs ih=>exact (congrArg (xq x+·) ih).trans (Nat.add_assoc ..).symm
set_option tactic.hygienic true in
def Oq:∀(n:Nat)(d:D){A:Around}{E:Value->Shared->Prop}{s:Shared}{v:Value}{as:List Addr}{Q:Int->Shared->Prop},
  A.units+2*n+2<cLine->Reads s.heap v d.di as->d.di.depth<=n->Q (jE w d) {s with toks:=s.toks+xq d}->wpAny (model prog w) A (pyHash v) Q E s:=by
 intro n
 induction n with
 |zero=>
  intro d A E s v as Q hu r hd h;have r:=o_ r
  cases d with
  |int i=>obtain ⟨t,rfl⟩:=r;exact wpAny_pyHash_int h
  |str i=>obtain ⟨t,rfl⟩:=r;exact wpAny_pyHash_str h
  |tup ds=>exact absurd hd (Nat.not_succ_le_zero _)
 |succ n ih=>
  intro d A E s v as Q hu r hd h;have r:=o_ r
  cases d with
  |int i=>obtain ⟨t,rfl⟩:=r;exact wpAny_pyHash_int h
  |str i=>obtain ⟨t,rfl⟩:=r;exact wpAny_pyHash_str h
  |tup ds=>
   obtain ⟨a,o,T,k,rfl,k1,k2,k3,bs,k4⟩:=r;have hT:s.TypeIs (.ref a) "tuple":=(af o k1 k2);refine wpAny_bind (wpAny_cRoomFor_or (.inr (yA (yA hu))) (wpAny_bind (wpAny_specialOf hT F.slot_tuple_hash.lookup (wpAny_bind (wpAny_specialOf hT F.slot_tuple_hash.lookup (wpAny_bind (wpAny_callSpecialIfBoundUnlessNone?_slot hT F.slot_tuple_hash (wpAny_call_entry F.slot_tuple_hash hT F.entry_tuple_hash ?_ (F.args_tuple_hash_1 _)))))))));show wpAny _ _ (Builtin.Tuple.tupleItemsOf (.ref a)>>=_) _ _ s;refine wpAny_bind (wpAny_tupleItemsOf k1 k3 (wpAny_bind ?_));rw [<-Array.forIn_toList];refine wpAny_forIn_list _
    (λrest b s'=>∃(done left:List D) (bs:List Addr),ds=done++left/\ReadsAll s.heap rest (D.fC left) bs/\PyData.depthAll (D.fC left)<=n/\b.toList=nN w done/\s'={s with toks:=s.toks+qM done})
    _ ?_ ?_ _ _ (mK ([]) ds _ rfl k4 (Nat.le_of_succ_le_succ hd) rfl rfl)
   ·rintro x rest b s' ⟨done,left,bs,rfl,hl,lT,hb,rfl⟩;(refine gJ (keysAt hl) λe S _ _ t_ r1 r2=>?_;subst t_);have lT:max (PyData.depth e.di) (PyData.depthAll (D.fC S))<=n:=lT;refine wpAny_bind (ih e (vx hu (nl rfl):(A.units+1)+2*n+2<cLine) r1 (nT (Nat.le_max_left _ _) lT) (wpAny_pure (mK (done++[e]) S _ ((List.append_assoc done [e] S).symm) r2 (nT (Nat.le_max_right _ _) lT) ?_ ?_)))
    ·rw [Array.toList_push,hb,Kz];rfl
    ·rw [Kw];exact congrArg (λt=>({s with toks:=t}:Shared)) (Nat.add_assoc ..)
   ·rintro b s' ⟨done,left,bs,rfl,hl,lT,hb,rfl⟩;obtain rfl:left=[]:=keysAt hl;rw [List.append_nil] at h;show wpAny _ _ (retInt (Builtin.Tuple.tupleHashOf b.toList)) _ _ _;rw [hb];refine wpAny_ret_mkInt ?_;rw [jE] at h;delta reduceHash at h;show wpAny _ _ (if(decide (-(2)^63<=Builtin.Tuple.tupleHashOf (nN w done))&&decide (Builtin.Tuple.tupleHashOf (nN w done)<2^63))=true then _ else _) Q E _;split at h
    ·rename_i hr;rw [if_pos hr];exact wpAny_pure h
    ·rename_i hr;rw [if_neg hr];exact wpAny_bind (wpAny_rule (wpAny_pure h))
structure tO (h:Heap)(G:List D)(a:Addr):Prop where
 reads:∃as,Reads h (.ref a) (D.tup G).di as
 lay:(D.tup G).di.canLay0=true
 deep:(D.tup G).di.depth<=8
def KR {A:Around}{E:Value->Shared->Prop}{s:Shared}{x y:List D}{a b:Addr}{Q:Bool->Shared->Prop}(hu:HO A)(Y:tO s.heap x a)(hy:tO s.heap y b)(h:Q (D.beq (.tup x) (.tup y)) s):
  wpAny (model prog w) A (eqBool (.ref a) (.ref b)) Q E s:=by
 refine bc λTh=>aM Y.reads λas r=>aM hy.reads λbs q=>Th (SeqAt.eqBoolOverData prog w A E s _ _ _ _ as bs Q r q Y.lay hy.lay (vw (a:=A.units) hu (nT (nT (Nat.min_le_left _ _) Y.deep) (nl rfl))) ((D.Gf _ _).2▸h))
def D3 {A:Around}{E:Value->Shared->Prop}{s:Shared}{i:Int}{x:Str}{t u:Tok}{Q:Bool->Shared->Prop}(h:Q false s):
  wpAny (model prog w) A (eqBool (.int i t) (.str x u)) Q E s/\wpAny (model prog w) A (eqBool (.str x u) (.int i t)) Q E s:=
 ⟨wpAny_bind (EqMixed.eq_int_str (wpAny_truthy_bool h)),wpAny_bind (EqMixed.eq_str_int (wpAny_truthy_bool h))⟩
def D.dec {d e:D}[Decidable (d=e)]:decide (d=e)=D.beq d e:=by rw [Bool.eq_iff_iff,D.beq_iff,decide_eq_true_iff]
noncomputable def jR:D->Value->Bool
 |.int i,v=>Value.isInt i v
 |.str x,v=>Value.isStrOf x v
 |.tup _,_=>false
noncomputable def XZ (v:Value):D->Prop
 |.int i=>∃t,v=.int i t
 |.str x=>∃t,v=.str x t
 |.tup _=>False
def tP {d:D}{v:Value}(h:jR d v=true):XZ v d:=by
 cases d with
 |int i=>exact Value.isInt_shape h
 |str x=>exact Value.isStrOf_shape h
 |tup _=>exact aS h
def nG {P:D->Value->Prop}{d:D}{v:Value}(h:jR d v=true)(hi:∀i t,P (.int i) (.int i t))(hs:∀x t,P (.str x) (.str x t)):P d v:=by
 have h:=tP h
 cases d with
 |tup _=>exact h.elim
 |int i=>exact aM h λt q=>q.symm▸hi i t
 |str i=>exact aM h λt q=>q.symm▸hs i t
def Qb {v:Value}{a b:D}(ha:jR a v=true)(hb:jR b v=true):a=b:=
 nG (P:=λa v=>jR b v=true->a=b) ha
  (λi t hb=>nG (P:=λb v=>.int i t=v->.int i=b) hb (λj u e=>congrArg (λv:Value=>match v with|.int i _=>D.int i|_=>.tup []) e) (λj u e=>rO e rfl) rfl)
  (λi t hb=>nG (P:=λb v=>.str i t=v->.str i=b) hb (λj u e=>rO e rfl) (λj u e=>congrArg (λv:Value=>match v with|.str i _=>D.str i|_=>.tup []) e) rfl) hb
def RL {A:Around}{E:Value->Shared->Prop}{s:Shared}{a b:D}{u v:Value}{Q:Bool->Shared->Prop}(ha:jR a u=true)(hb:jR b v=true):Q (D.beq a b) s->wpAny (model prog w) A (eqBool u v) Q E s:=
 nG (P:=λa u=>Q (D.beq a b) s->wpAny (model prog w) A (eqBool u v) Q E s) ha
  (λi t=>nG (P:=λb v=>Q (D.beq (.int i) b) s->wpAny (model prog w) A (eqBool (.int i t) v) Q E s) hb (λ_ _ h=>wpAny_eqBool_int h) (λ_ _ h=>(D3 h).1))
  (λi t=>nG (P:=λb v=>Q (D.beq (.str i) b) s->wpAny (model prog w) A (eqBool (.str i t) v) Q E s) hb (λ_ _ h=>(D3 h).2) (λ_ _ h=>eqBool_str h))
open Classical in
noncomputable def rR (prog:Program)(w:World):KeyKind prog w D where
 is:=jR
 hash:=jE w
 inj:=λv a b ha hb=>Qb ha hb
 byValue:=λk v h=>nG (P:=λ_ v=>carriedByValue v=true) h (λ_ _=>rfl) (λ_ _=>rfl)
 pyHash:=λ{A E s k v Q} h q=>nG (P:=λk v=>Q (jE w k) _->wpAny (model prog w) A (pyHash v) Q E s) h (λ_ _ q=>wpAny_pyHash_int q) (λ_ _ q=>wpAny_pyHash_str q) q
 eqBool:=λ{A E s a b u v Q} ha hb h=>RL ha hb (D.dec▸h)
 «strs»:=λk x t v h=>by
  cases k with
  |tup _=>exact aS h
  |int i=>exact aM (tP h) λ_ e=>rO e rfl
  |str i=>exact (PySem.strKind prog w).«strs» i x t v h
open Classical in
noncomputable def tupK (prog:Program)(w:World):HeapKind prog w D where
 is:=λh d a=>∃G,d=.tup G/\tO h G a
 hash:=jE w
 draws:=xq
 room:=HO
 inj:=λ{h a x y} Y hy=>by obtain ⟨G,rfl,Y⟩:=Y;obtain ⟨js,rfl,hy⟩:=hy;obtain ⟨as,r⟩:=Y.reads;obtain ⟨bs,q⟩:=hy.reads;exact (D.Gf _ _).1 (SeqAt.Reads.unique _ _ _ _ _ Y.lay r q)
 keeps:=λx ho hd hs=>by obtain ⟨G,e,x⟩:=x;obtain ⟨as,r⟩:=x.reads;exact ⟨G,e,La ho hd hs _ r,x.lay,x.deep⟩
 pyHash:=λ{A E s k a Q} hu hk h=>by obtain ⟨G,rfl,hk⟩:=hk;obtain ⟨as,r⟩:=hk.reads;have:A.units+200<cLine:=hu;exact Oq 8 (.tup G) (vw (d:=18) this (nl rfl)) r hk.deep h
 eqBool:=λ{A E s x y a b Q} hu Y hy h=>by obtain ⟨G,rfl,Y⟩:=Y;obtain ⟨js,rfl,hy⟩:=hy;exact KR hu Y hy (D.dec (d:=.tup G) (e:=.tup js)▸h)
 quiet:=λ{A E s k a Q} hk h=>by obtain ⟨G,rfl,hk⟩:=hk;obtain ⟨as,r⟩:=hk.reads;exact RJ 8 (.tup G) r hk.deep h
end
noncomputable abbrev Md (w:World):Model:=model pw w
def bK {α:Type}{b:Bool}{a:Option α}{x:α}(h:guard b a=some x):b=true/\a=some x:=by
 induction b with
 |true=>exact ⟨rfl,h⟩
 |false=>exact aF h
def fit_le {n:Nat}(h:aY n=true):n<=1048576:=Nat.le_of_ble_eq_true h
section
variable{β:Type} (ok:V->D->β->V->Prop)
inductive RK:List (V×V)->List (D×β)->Prop
 |nil:RK [] []
 |cons {kv x:V} {d:D} {b:β} {S:List (V×V)} {aR:List (D×β)}:cp 8 kv=some d->ok kv d b x->RK S aR->RK ((kv,x)::S) ((d,b)::aR)
open Classical
noncomputable def mw (aR:List (D×β))(d:D):Option β:=(aR.find? λp=>decide (p.1=d)).map (·.2)
noncomputable def jf (upd:β->β)(d:D)(b:β)(aR:List (D×β)):List (D×β):=if(mw aR d).isSome then aR.map (λp=>if p.1=d then(p.1,upd p.2) else p) else aR++[(d,b)]
def EM {d:D}{b:β}{aR:List (D×β)}:mw ((d,b)::aR) d=some b:=by simp [mw]
def En {d j:D}{b:β}{aR:List (D×β)}(h:j≠d):mw ((j,b)::aR) d=mw aR d:=by simp [mw,h]
variable{ok}
def RK.keys {S:List (V×V)}{aR:List (D×β)}(r:RK ok S aR):a_ (λe:V×V=>cp 8 e.1) S=some (aR.map (·.1)):=by
 induction r with
 |nil=>rfl
 |cons a _ _ ih=>simp [a_,a,ih]
def RK.length {S:List (V×V)}{aR:List (D×β)}(r:RK ok S aR):S.length=aR.length:=by
 induction r with
 |nil=>rfl
 |cons _ _ _ ih=>exact congrArg (·+1) ih
def RK.find {d:D}{S:List (V×V)}{aR:List (D×β)}(r:RK ok S aR):(dm d S=none/\mw aR d=none)\/∃x kv b,dm d S=some x/\mw aR d=some b/\ok kv d b x:=by
 induction r with
 |nil=>exact .inl ⟨rfl,rfl⟩
 |@cons kv x j b S aR a o _ ih=>
  simp only [dm,V.toD,a,Option.bind_some];by_cases h:j=d
  ·subst h;rw [D.zP];exact .inr (gf x kv b rfl EM o)
  ·exact (D.AN h).symm▸(En h).symm▸ih
def RK.put {d:D}{kv x:V}{b:β}{upd:β->β}(hk:cp 8 kv=some d)(WA:ok kv d b x)(WB:∀kv' b' x',ok kv' d b' x'->ok kv' d (upd b') x){S:List (V×V)}{aR:List (D×β)}(r:RK ok S aR):
  (aR.map (·.1)).Nodup->RK ok (hF d kv x S) (jf upd d b aR):=by
 induction r with
 |nil=>exact λ_=>.cons hk WA .nil
 |@cons kv' x' j b' S aR a o r ih=>
  intro hn;rw [List.map_cons,List.nodup_cons] at hn;simp only [hF,V.toD,a];by_cases h:j=d
  ·subst h;rw [D.zP];have e:jf upd j b ((j,b')::aR)=(j,upd b')::aR:=by
    delta jf;rw [EM,Option.isSome_some,if_pos rfl,List.map_cons,if_pos rfl];exact congrArg ((j,upd b')::·) ((List.map_congr_left λp hp=>if_neg λq=>hn.1 (kE (af p hp q))).trans (List.map_id' aR))
   exact e.symm▸.cons a (WB _ _ _ o) r
  ·refine (D.AN h).symm▸?_;have e:jf upd d b ((j,b')::aR)=(j,b')::jf upd d b aR:=by
    delta jf;refine (En h).symm▸?_;split
    ·rw [List.map_cons,if_neg h]
    ·rfl
   rw [e];exact .cons a o (ih hn.2)
end
noncomputable def nY (d:D):Bool:=Nat.ble d.kind 1
def JO (w:World)(g:Gh)(kv:V)(d:D)(u:Value)(x:V):Prop:=nY d=true/\VR w g x u
def JP (w:World)(g:Gh)(kv:V)(d:D)(b:Addr×Value)(x:V):Prop:=(∃G,d=.tup G)/\VR w g kv (.ref b.1)/\VR w g x b.2
def nr {n:Nat}{v:V}{d:D}(h:cp n v=some d):match v with
  |.int i=>d=.int i
  |.str s=>d=.str s/\PyData.strOk s=true
  |.tup xs=>∃m ds,n=m+1/\d=.tup ds/\a_ (cp m) xs=some ds
  |_=>False:=by
 cases v with
 |int i=>cases n<;>exact (oj h).symm
 |str s=>
  have h:(if PyData.strOk s=true then some (D.str s) else none)=some d:=by cases n<;>exact h
  split at h
  ·exact ⟨(oj h).symm,by assumption⟩
  ·exact aF h
 |tup xs=>
  induction n with
  |zero=>exact aF h
  |succ m=>exact aH h λds H M=>aD m ds rfl ((oj M).symm) H
 |_=>cases n<;>exact aF h
def MT (d:D):∀{n:Nat}{v:V},cp n v=some d->h9 n v=some d.di:=by
 refine D.rec (motive_1:=λd=>∀{n:Nat}{v:V},cp n v=some d->h9 n v=some d.di) (motive_2:=λds=>∀{n:Nat}{xs:List V},a_ (cp n) xs=some ds->a_ (h9 n) xs=some (D.fC ds)) ?_ ?_ ?_ ?_ ?_ d
 ·intro i n v h;have q:=nr h
  cases v with
  |int j=>(injection q with q_;subst q_);cases n<;>rfl
  |str s=>exact nD q.1 rfl
  |tup xs=>refine aw q λ_ _ _ q _=>?_;exact nD q rfl
  |_=>exact q.elim
 ·intro i n v h;have q:=nr h
  cases v with
  |int j=>exact nD q rfl
  |str s=>(injection q.1 with q_;subst q_);cases n<;>exact if_pos q.2
  |tup xs=>refine aw q λ_ _ _ q _=>?_;exact nD q rfl
  |_=>exact q.elim
 ·intro ds ih n v h;have q:=nr h
  cases v with
  |int j=>exact nD q rfl
  |str s=>exact nD q.1 rfl
  |tup xs=>refine bc λCo=>?_;obtain ⟨m,S,rfl,q,q2⟩:=q;(injection q with q_;subst q_);refine Co ?_;show(a_ (h9 m) xs).bind _=_;refine (ih q2).symm▸?_;rfl
  |_=>exact q.elim
 ·intro n xs h
  induction xs with
  |nil=>rfl
  |cons x xs=>refine aG (jB h) λ_ _ e _=>?_;exact mP e
 ·intro d ds oC oD n xs h
  induction xs with
  |nil=>cases h
  |cons x xs=>refine aw (jB h) λ_ _ e H M=>?_;(injection e with q_ dq;subst q_;subst dq);show(h9 n x).bind _=_;rw [oC H];rw [oD M];rfl
section
variable{w:World} {g:Gh} {h:Heap}
def VR.Am {kv:V}{d:D}{u:Value}(x:VR w g kv u)(hk:cp 8 kv=some d)(hv:nY d=true):jR d u=true:=by
 have q:=nr hk
 cases kv with
 |int j=>cases q;obtain ⟨t,rfl⟩:=x.da;exact beq_self_eq_true j
 |str s=>cases q.1;obtain ⟨t,rfl⟩:=x.j7;exact beq_self_eq_true s
 |tup xs=>(refine aw q λ_ _ _ pI _=>?_;subst pI);exact aS hv
 |_=>exact q.elim
def VR.RM {kv:V}{d:D}{u:Value}(hk:cp 8 kv=some d)(h:jR d u=true):VR w g kv u:=by
 have q:=nr hk
 cases kv with
 |int j=>cases q;obtain ⟨t,rfl⟩:=(tP h);exact .int _ _
 |str s=>cases q.1;obtain ⟨t,rfl⟩:=(tP h);exact .str _ _
 |tup xs=>(refine aw q λ_ _ _ uK _=>?_;subst uK);exact (tP h).elim
 |_=>exact q.elim
def VR.Gg (ag:g.In h){kv:V}{G:List D}{u:Value}(x:VR w g kv u)(hk:cp 8 kv=some (.tup G)):∃a,u=.ref a/\tO h G a:=by
 obtain ⟨r1,r2,r3⟩:=tN ag x (MT _ hk)
 cases kv with
 |int j=>exact nD (nr hk) rfl
 |str s=>exact nD ((nr hk).1) rfl
 |tup xs=>(refine n_ x.qY λa _ _ _ Cp _=>?_;subst Cp);exact ⟨a,rfl,r1,r2,r3⟩
 |_=>exact (nr hk).elim
noncomputable def IW (w:World)(g:Gh)(ds:List DictEntry):List (V×V)->Prop
 |[]=>ds=[]
 |p::S=>∃e r d,ds=e::r/\VR w g p.1 e.key/\cp 8 p.1=some d/\e.hash=jE w d/\VR w g p.2 e.val/\dW w g S r
def dW.shape {S:List (V×V)}{ds:List DictEntry}(x:dW w g S ds):IW w g ds S:=dW.casesOn (motive_3:=λS ds _=>IW w g ds S) x rfl λa b c d e=>uF _ _ _ rfl a b c d e
open Classical in
def Bx {S:List (V×V)}:∀{ds:List DictEntry},dW w g S ds->(∀e∈S,∀d,cp 8 e.1=some d->nY d=true)->
  ∃aR,RK (JO w g) S aR/\Pairs (rR pw w) ds aR/\∀e∈ds,∃k,jR k e.key=true/\e.hash=jE w k:=by
 induction S with
 |nil=>intro ds x _;obtain rfl:ds=[]:=x.shape;exact bX ([]) .nil .nil (λ_ h=>cj h)
 |cons p S ih=>
  intro ds x hv;refine bc λBy=>?_;obtain ⟨e,r,d,rfl,a,b,c,v,x⟩:=x.shape;refine bW (ih x λe he=>hv e (aT _ he)) λaR r1 r2 r3=>By ?_;have hd:=hv _ mS d b;refine bX ((d,e.val)::aR) (.cons b ⟨hd,v⟩ r1) (.cons (a.Am b hd) rfl r2) (λe' he=>?_);rcases mE he with rfl|he
  ·exact af d (a.Am b hd) c
  ·exact r3 e' he
open Classical in
def HP {S:List (V×V)}{aR:List (D×Value)}(r:RK (JO w g) S aR):∀{ds:List DictEntry},Pairs (rR pw w) ds aR->(∀e∈ds,∃k,jR k e.key=true/\e.hash=jE w k)->dW w g S ds:=by
 induction r with
 |nil=>intro ds p _;cases p;exact .nil
 |cons a o r ih=>
  intro ds p h
  cases p with
  |cons H M p=>
  refine bc λBz=>aq (h _ mS) λk' q1 q2=>?_;obtain rfl:=(rR pw w).inj _ _ _ q1 H;exact Bz (.cons (.RM a H) a q2 (M▸o.2) (ih p λe' he=>h e' (aT _ he)))
open Classical in
def Ti (ag:g.In h){S:List (V×V)}:∀{ds:List DictEntry},dW w g S ds->(∀e∈S,∀d,cp 8 e.1=some d->nY d=false)->
  ∃aR,RK (JP w g) S aR/\ds=aR.map (entryOfKey (tupK pw w))/\∀x∈aR,∃G,x.1=.tup G/\tO h G x.2.1:=by
 induction S with
 |nil=>intro ds x _;obtain rfl:ds=[]:=x.shape;exact bX ([]) .nil rfl (λ_ h=>cj h)
 |cons p S ih=>
  intro ds x hv;refine bc λTj=>?_;obtain ⟨⟨eh,ek,ev⟩,r,d,rfl,a,b,c,v,x⟩:=x.shape;refine bW (ih x λe he=>hv e (aT _ he)) λaR r1 r2 r3=>Tj ?_;have hd:=hv _ mS d b
  cases d with
  |tup G=>
   (refine aq (a.Gg ag b) λad To q=>?_;subst To);obtain rfl:eh=_:=c;refine bX ((.tup G,ad,ev)::aR) (.cons b (bx ⟨G,rfl⟩ a v) r1) (by rw [r2];rfl) (λx Y=>?_);rcases mE Y with rfl|Y
   ·exact af G rfl q
   ·exact r3 x Y
  |_=>exact d7 hd
open Classical in
def Tq {S:List (V×V)}{aR:List (D×Addr×Value)}(r:RK (JP w g) S aR):dW w g S (aR.map (entryOfKey (tupK pw w))):=by
 induction r with
 |nil=>exact .nil
 |cons a o _ ih=>exact .cons o.2.1 a rfl o.2.2 ih
end
def RK.nodup {β:Type}{ok:V->D->β->V->Prop}{S:List (V×V)}{aR:List (D×β)}(r:RK ok S aR)(h:kZ S):(aR.map (·.1)).Nodup:=by refine bW h λds H M _=>?_;replace H:=r.keys▸H;obtain rfl:=oj H;exact M
def RK.keysOk {β:Type}{ok:V->D->β->V->Prop}{S:List (V×V)}{aR:List (D×β)}(r:RK ok S aR)(h:(aR.map (·.1)).Nodup)(hk:∀p∈aR,∀q∈aR,alike p.1 q.1=true):kZ S:=by refine bX _ r.keys h (λa ha b hb=>?_);(refine bT ha λx Y uc=>?_;subst uc);(refine bT hb λy hy BA=>?_;subst BA);exact hk x Y y hy
def jS {A1 A2 B:Type}{x1:Option A1}{x2:A1->Option A2}{f:A1->A2->Option B}{b:B}{ai:Prop}(h:((x1).bind λa1=>(x2 a1).bind λa2=>f a1 a2)=some b)(k:∀(a1:A1)(a2:A2),x1=some a1->x2 a1=some a2->f a1 a2=some b->ai):ai:=aH h λa1 H h=>aH h λa2 M h=>k a1 a2 H M h
def fS {A1 B:Type}{x1:Option A1}{c2:A1->Bool}{f:A1->Option B}{b:B}{ai:Prop}(h:((x1).bind λa1=>guard (c2 a1) (f a1))=some b)(k:∀(a1:A1),x1=some a1->c2 a1=true->f a1=some b->ai):ai:=aH h λa1 H h=>(bK h).elim λM h=>k a1 H M h
def yE {A2 B:Type}{c1:Bool}{x2:Option A2}{f:A2->Option B}{b:B}{ai:Prop}(h:(guard (c1) ((x2).bind λa2=>f a2))=some b)(k:∀(a2:A2),c1=true->x2=some a2->f a2=some b->ai):ai:=(bK h).elim λH h=>aH h λa2 M h=>k a2 H M h
def Cq {A1 A2 A3 B:Type}{x1:Option A1}{x2:A1->Option A2}{x3:A1->A2->Option A3}{f:A1->A2->A3->Option B}{b:B}{ai:Prop}(h:((x1).bind λa1=>(x2 a1).bind λa2=>(x3 a1 a2).bind λa3=>f a1 a2 a3)=some b)(k:∀(a1:A1)(a2:A2)(a3:A3),x1=some a1->x2 a1=some a2->x3 a1 a2=some a3->f a1 a2 a3=some b->ai):ai:=aH h λa1 H h=>aH h λa2 M h=>aH h λa3 h3 h=>k a1 a2 a3 H M h3 h
def Cr {A1 A2 B:Type}{x1:Option A1}{x2:A1->Option A2}{c3:A1->A2->Bool}{f:A1->A2->Option B}{b:B}{ai:Prop}(h:((x1).bind λa1=>(x2 a1).bind λa2=>guard (c3 a1 a2) (f a1 a2))=some b)(k:∀(a1:A1)(a2:A2),x1=some a1->x2 a1=some a2->c3 a1 a2=true->f a1 a2=some b->ai):ai:=aH h λa1 H h=>aH h λa2 M h=>(bK h).elim λh3 h=>k a1 a2 H M h3 h
def IX {A1 A3 B:Type}{x1:Option A1}{c2:A1->Bool}{x3:A1->Option A3}{f:A1->A3->Option B}{b:B}{ai:Prop}(h:((x1).bind λa1=>guard (c2 a1) ((x3 a1).bind λa3=>f a1 a3))=some b)(k:∀(a1:A1)(a3:A3),x1=some a1->c2 a1=true->x3 a1=some a3->f a1 a3=some b->ai):ai:=aH h λa1 H h=>(bK h).elim λM h=>aH h λa3 h3 h=>k a1 a3 H M h3 h
def WC {A2 B:Type}{c1:Bool}{x2:Option A2}{c3:A2->Bool}{f:A2->Option B}{b:B}{ai:Prop}(h:(guard (c1) ((x2).bind λa2=>guard (c3 a2) (f a2)))=some b)(k:∀(a2:A2),c1=true->x2=some a2->c3 a2=true->f a2=some b->ai):ai:=(bK h).elim λH h=>aH h λa2 M h=>(bK h).elim λh3 h=>k a2 H M h3 h
def Ts {A2 A3 A4 B:Type}{c1:Bool}{x2:Option A2}{x3:A2->Option A3}{x4:A2->A3->Option A4}{f:A2->A3->A4->Option B}{b:B}{ai:Prop}(h:(guard (c1) ((x2).bind λa2=>(x3 a2).bind λa3=>(x4 a2 a3).bind λa4=>f a2 a3 a4))=some b)(k:∀(a2:A2)(a3:A3)(a4:A4),c1=true->x2=some a2->x3 a2=some a3->x4 a2 a3=some a4->f a2 a3 a4=some b->ai):ai:=(bK h).elim λH h=>aH h λa2 M h=>aH h λa3 h3 h=>aH h λa4 h4 h=>k a2 a3 a4 H M h3 h4 h
abbrev aA:Value->Shared->Prop:=λ_ _=>False
structure Cs (w:World)(g:Gh)(A:Around)(s:Shared)(a:Addr)(S:List (V×V))(kv:V)(d:D)(u:Value):Prop where
 isIn:∀{Q:Value->Shared->Prop},(∀t,s.toks<=t->Q (.bool (dm d S).isSome) {s with toks:=t})->wpAny (Md w) A (compareOp .In u (.ref a)) Q aA s
 BB:∀{Q:Value->Shared->Prop},(∀t,s.toks<=t->Q (.bool (!(dm d S).isSome)) {s with toks:=t})->wpAny (Md w) A (compareOp .NotIn u (.ref a)) Q aA s
 item:∀{r:V}{Q:Value->Shared->Prop},dm d S=some r->(∀t v,s.toks<=t->VR w g r v->Q v {s with toks:=t})->wpAny (Md w) A (getItem (.ref a) u) Q aA s
 get:∀{dv:V}{du:Value}{Q:Value->Shared->Prop},VR w g dv du->(∀t v,s.toks<=t->VR w g ((dm d S).getD dv) v->Q v {s with toks:=t})->wpAny (Md w) A (call (.builtin "dict.get") [.ref a,u,du]) Q aA s
 put:∀{xv:V}{v:Value}{Q:Unit->Shared->Prop},VR w g xv v->S.length<=1048576->(∀h' t,s.toks<=t->DR w g h' a (hF d kv xv S)->Heap.SameBut a s.heap h'->Q () {s with heap:=h',toks:=t})->
  wpAny (Md w) A (setItem (.ref a) u v) Q aA s/\wpAny (Md w) A (dictSet a u v) Q aA s
section
variable{w:World} {g:Gh} {A:Around} {s:Shared} {a:Addr} {S:List (V×V)} {kv:V} {d:D} {u:Value}
def LM {x y d:D}(h:alike x d=true)(k:alike y d=true):alike x y=true:=bI ((bE h).trans (bE k).symm)
def sS {x d:D}(h:alike x d=true):nY x=nY d:=congrArg (Nat.ble · 1) (bE h)
def RK.mem {β:Type}{ok:V->D->β->V->Prop}{S:List (V×V)}{aR:List (D×β)}(r:RK ok S aR):∀p∈aR,∃e∈S,cp 8 e.1=some p.1:=by
 induction r with
 |nil=>intro p h;nomatch h
 |cons a _ _ ih=>
  intro p h;rcases mE h with rfl|h
  ·exact af _ mS a
  ·refine aq (ih p h) λe H M=>?_;exact af e (aT _ H) M
def LN {β:Type}{upd:β->β}{b:β}{aR:List (D×β)}{p:D×β}(h:p∈jf upd d b aR):p.1=d\/∃q∈aR,q.1=p.1:=by
 delta jf at h;split at h
 ·(refine bT h λq hq bu=>?_;subst bu);exact .inr (af q hq (by split<;>rfl))
 ·exact (pE h).elim (λh=>(.inr (af p h rfl))) (λh=>(.inl (by rw [sE h])))
def Eo {β:Type}{ok:V->D->β->V->Prop}{upd:β->β}{b:β}{aR:List (D×β)}{kI:List (V×V)}(r:RK ok S aR)(qa:∀e∈S,∀x,cp 8 e.1=some x->alike x d=true)(hd:alike d d=true)(r':RK ok kI (jf upd d b aR))(hn:((jf upd d b aR).map (·.1)).Nodup):kZ kI:=by
 have key:∀p∈jf upd d b aR,alike p.1 d=true:=λp hp=>by
  refine (LN hp).elim (λh=>?_) (λcx=>aq cx λq hq h=>?_)
  ·refine h.symm▸?_;exact hd
  ·exact aq (r.mem q hq) λe H M=>h▸qa e H _ M
 exact r'.keysOk hn λp hp q hq=>LM (key p hp) (key q hq)
open Classical in
def Tt (hs:(a==sysModules)=false){o:Obj}{ds:Array DictEntry}{ep:Nat}(H:s.heap.get? a=some o)(M:o.ExactDict)(h3:o.data=.dict ds ep)(h4:kZ S)(h5:dW w g S ds.toList)
  (qb:VR w g kv u) (hd:cp 8 kv=some d) (hv:nY d=true) (qa:∀e∈S,∀x,cp 8 e.1=some x->alike x d=true):Cs w g A s a S kv d u:=by
 have hk:=qb.Am hd hv;refine bW (Bx h5 λe he x Y=>(sS (qa e he x Y)).trans hv) λaR R p q=>?_;have D1:s.heap.DictOf (rR pw w) a aR:=(uF o ds ep H M h3 (λe he=>q e (Array.mem_toList_iff.mpr he)) p (R.nodup h4));have at':(dm d S).isSome=(valueAt aR d).isSome:=by
  refine (R.find (d:=d)).elim (λpJ=>ay pJ λq1 q2=>?_) (λkn=>fA kn λ_ _ _ q1 q2 _=>?_)
  ·refine q1.symm▸?_;exact (congrArg Option.isSome q2).symm
  ·refine q1.symm▸?_;exact (congrArg Option.isSome q2).symm
 refine ⟨λhq=>wpAny_in_of hk hs D1.mapOf (at'▸hq _ (by first|exact nR _|exact lS _|exact lA ..)),λhq=>wpAny_notIn_of hk hs D1.mapOf (at'▸hq _ (by first|exact nR _|exact lS _|exact lA ..)),λhr hq=>?_,λ{dv du Q} Dg hq=>?_,λ{xv v Q} Y hl hq=>?_⟩
 ·refine (R.find (d:=d)).elim (λjo=>ay jo λq1 _=>?_) (λCt=>fA Ct λ_ _ _ q1 q2 q3=>?_)
  ·exact lx (hr.symm.trans q1)
  ·obtain rfl:=oj (hr.symm.trans q1);exact wpAny_getItem_of hk D1.mapOf q2 (hq _ _ (by first|exact nR _|exact lS _|exact lA ..) q3.2)
 ·refine call_meetsIn F.slot_dict_get D1.typeIs F.entry_dict_get (F.args_dict_get_3 _ _ _) (meets_dict_get_default _ a hk hs du) (af _ D1.mapOf (hq _ _ (by first|exact nR _|exact lS _|exact lA ..) ((R.find (d:=d)).elim (λCu=>ay Cu λq1 q2=>?_) (λuL=>fA uL λ_ _ _ q1 q2 q3=>?_))))
  ·refine q1.symm▸(show valueAt aR d=none from q2).symm▸?_;exact Dg
  ·refine q1.symm▸(show valueAt aR d=some _ from q2).symm▸?_;exact q3.2
 ·have e:stored aR d v=jf (λ_=>v) d v aR:=by
   delta stored jf mw;exact Option.isSome_map.symm▸List.isSome_find?.symm▸rfl
  have R':=R.put hd (upd:=λ_=>v) ⟨hv,Y⟩ (λ_ _ _ z=>⟨z.1,Y⟩) (R.nodup h4);have fin:∀h',h'.DictOf (rR pw w) a (stored aR d v)->Heap.SameBut a s.heap h'->Q () {s with heap:=h',toks:=s.toks+1}:=λh' D2 sb=>by refine xZ D2 λo ds ep H M h3 h4 h5 h6=>?_;rw [e] at h5 h6;exact hq _ _ (by first|exact nR _|exact lS _|exact lA ..) ⟨o,ds,ep,H,⟨M,h3,Eo R qa (beq_self_eq_true _) R' h6,hs⟩,HP R' h5 λe he=>h4 e (Array.mem_toList_iff.mp he)⟩ sb
  have hsz:aR.length<=sizeLine:=R.length▸nT hl (nl rfl);exact ⟨wpAny_setItem_pairs hk D1 fin hsz,wpAny_dictSet_pairs hk D1 fin⟩
open Classical in
def Tu (ag:g.In s.heap)(hu:A.units+250<cLine)(hs:(a==sysModules)=false){o:Obj}{ds:Array DictEntry}{ep:Nat}(H:s.heap.get? a=some o)(M:o.ExactDict)(h3:o.data=.dict ds ep)(h4:kZ S)(h5:dW w g S ds.toList)
  (qb:VR w g kv u) (hd:cp 8 kv=some d) {G:List D} (hv:d=.tup G) (qa:∀e∈S,∀x,cp 8 e.1=some x->alike x d=true):Cs w g A s a S kv d u:=by
 refine bc λbu=>?_;(refine aq (qb.Gg ag (hv▸hd)) λb uM hb=>?_;subst uM);have hk:(tupK pw w).is s.heap d b:=(af G hv hb);refine bW (Ti ag h5 λe he x Y=>(sS (qa e he x Y)).trans (by refine hv.symm▸?_;rfl)) λaR R p q=>?_;refine bu ?_;have hn:=R.nodup h4;have D1:s.heap.DictOfH (tupK pw w) a aR:=(uF o ds ep H M h3 p q hn);have room:=(vw (d:=201) hu (nl rfl):A.units+1+200<cLine);have at':(dm d S).isSome=(atKey aR d).isSome:=by
  refine (R.find (d:=d)).elim (λBC=>ay BC λq1 q2=>?_) (λTv=>fA Tv λ_ _ _ q1 q2 _=>?_)
  ·refine q1.symm▸?_;exact (congrArg Option.isSome q2).symm
  ·refine q1.symm▸?_;exact (congrArg Option.isSome q2).symm
 refine ⟨λhq=>wpAny_in_heap room hk hs D1 (at'▸hq _ (by first|exact nR _|exact lS _|exact lA ..)),λhq=>wpAny_notIn_heap room hk hs D1 (at'▸hq _ (by first|exact nR _|exact lS _|exact lA ..)),λhr hq=>?_,λ{dv du Q} Dg hq=>?_,λ{xv v Q} Y hl hq=>?_⟩
 ·refine (R.find (d:=d)).elim (λnZ=>ay nZ λq1 _=>?_) (λBD=>fA BD λ_ _ _ q1 q2 q3=>?_)
  ·exact lx (hr.symm.trans q1)
  ·obtain rfl:=oj (hr.symm.trans q1);exact wpAny_getItem_heap room hk D1 q2 (hq _ _ (by first|exact nR _|exact lS _|exact lA ..) q3.2.2)
 ·refine call_meetsIn F.slot_dict_get D1.typeIs F.entry_dict_get (F.args_dict_get_3 _ _ _) (meetsH_dict_get_default _ a b hs du) ⟨room,d,aR,hk,D1,hq _ _ (by first|exact nR _|exact lS _|exact lA ..) ((R.find (d:=d)).elim (λBE=>ay BE λq1 q2=>?_) (λBF=>fA BF λ_ _ _ q1 q2 q3=>?_))⟩
  ·refine q1.symm▸(show atKey aR d=none from q2).symm▸?_;exact Dg
  ·refine q1.symm▸(show atKey aR d=some _ from q2).symm▸?_;exact q3.2.2
 ·have R':=R.put hd (b:=(b,v)) (upd:=λp=>(p.1,v)) (bx ⟨G,hv⟩ qb Y) (λ_ _ _ z=>(bx z.1 z.2.1 Y)) hn;have fin:∀h',h'.DictOfH (tupK pw w) a (storedH aR d b v)->Heap.SameBut a s.heap h'->Q () {s with heap:=h',toks:=s.toks+(tupK pw w).draws d}:=λh' D2 sb=>by
   refine xZ D2 λo ds ep H M h3 h4 h5 h6=>?_;exact hq _ _ (by first|exact nR _|exact lS _|exact lA ..) ⟨o,ds,ep,H,⟨M,h3,Eo R qa (beq_self_eq_true _) R' h6,hs⟩,by rw [h4];exact Tq R'⟩ sb
  have hsz:aR.length<=sizeLine:=R.length▸nT hl (nl rfl);exact ⟨wpAny_setItem_heap room hk D1 fin hsz,wpAny_dictSet_heap (((Nat.le_of_lt ‹_›):A.units+200<cLine):(tupK pw w).room A) hk D1 fin⟩
def zv {r:Option V}(h:dh S kv=some r):∃d,cp 8 kv=some d/\eo S d=true/\r=dm d S:=by exact bc λjq=>fS h λd H h3 h4=>jq (bX d H h3 ((oj h4).symm))
def zw {v:V}{r:List (V×V)}(h:gN S kv v=some r):∃d,cp 8 kv=some d/\eo S d=true/\S.length<=1048576/\r=hF d kv v S:=by refine bc λpK=>fS h λd H h3 h4=>?_;obtain ⟨h5,h6⟩:=iD h3;exact pK (mJ d H h6 (fit_le h5) ((oj h4).symm))
def kZ.alike (h:kZ S)(hf:eo S d=true):∀e∈S,∀x,cp 8 e.1=some x->alike x d=true:=by
 refine bW h λds H _ h3=>?_;intro e he x Y
 cases S with
 |nil=>nomatch he
 |cons p S=>refine bc λWD=>?_;(refine aw (jB H) λy zs Tw q1 q2=>?_;subst Tw);refine aq (Oo H he) λz z1 z2=>?_;obtain rfl:=oj (Y.symm.trans z2);refine WD ?_;have hf:(match cp 8 p.1 with|some k=>Mine.alike k d|none=>false)=true:=hf;replace hf:=q1▸hf;exact bI ((bE (h3 x z1 y mS)).trans (bE hf))
def DR.road (x:DR w g s.heap a S)(ag:g.In s.heap)(hu:A.units+250<cLine)(qb:VR w g kv u)(hd:cp 8 kv=some d)(hf:eo S d=true):Cs w g A s a S kv d u:=by
 refine fA x λo ds ep H BG h5=>jm BG λM h3 h4 hs=>?_;generalize hv:nY d=z_;induction z_ with
 |true=>exact Tt hs H M h3 h4 h5 qb hd hv (h4.alike hf)
 |false=>
  cases d with
  |tup G=>exact Tu ag hu hs H M h3 h4 h5 qb hd rfl (h4.alike hf)
  |int _=>exact d7 hv
  |str _=>exact d7 hv
end
structure Wd where
 w:World
 eE:Str->Addr
 eI:Nat×Nat->Addr
 eF:Addr->Option Obj
structure Rm (n:Nat)(A:Around):Prop where
 handled:A.handled=none
 depth:A.depth+2*n+2<recursionLimit
 units:A.units+20*n+400<cLine
structure Fs (env:Env)(sc:List (Str×NameKind)):Prop where
 kind:env.scope.kind=.function
 glob:env.globals=mainGlobals
 blt:env.builtins=builtinsNs
 iY:sc.lookup iY=none
 kG:sc.lookup kG=none
 vk:∀y,iN (sc.lookup y)=true->env.kindOf y=some .local\/env.kindOf y=some .cell\/env.kindOf y=some .free
 gk:∀y,sc.lookup y=some .globalImplicit->env.kindOf y=some .globalImplicit
 ck:∀y,sc.lookup y=some .cell->env.kindOf y=some .cell
 lk:∀y,sc.lookup y=some .local->env.kindOf y=some .local
 IY:(∃y,sc.lookup y=some .cell)->env.cells.Pairwise λx y=>x.2≠y.2
structure Cx (W:Wd)(n:Nat) where
 A:Around
 B:Nat
 env:Env
 sc:List (Str×NameKind)
 rm:Rm n A
 fs:Fs env sc
structure az where
 g:Gh
 loc:Str->Addr
 s:Shared
noncomputable abbrev az.h (k:az):Heap:=k.s.heap
noncomputable abbrev az.top (k:az):Nat:=k.s.heap.objs.size
noncomputable def az.tok (k:az)(t:Nat):az:=⟨k.g,k.loc,{k.s with toks:=t}⟩
def WP {W:Wd}{n:Nat}(c:Cx W n){α:Type}(t:Sem α)(Q:α->az->Prop)(k:az):Prop:=wpAny (Md W.w) c.A t (λa s=>∃g l,Q a ⟨g,l,s⟩) aA k.s
section
variable{W:Wd} {n:Nat} {c:Cx W n} {α β:Type} {t:Sem α} {Q Q':α->az->Prop} {k:az}
def WP.mono (h:WP c t Q k)(f:∀a k',Q a k'->Q' a k'):WP c t Q' k:=wpAny_mono h (λa s x=>x.elim λg x=>x.elim λl x=>(dB g l (f a _ x))) λ_ _ x=>x
def WP.use {R:α->Shared->Prop}(h:WP c t Q k)(f:∀a k',Q a k'->R a k'.s):wpAny (Md W.w) c.A t R aA k.s:=wpAny_mono h (λa s x=>x.elim λg x=>x.elim λl x=>f a _ x) λ_ _ x=>x
end
def My (g:Gh)(b:Addr):Prop:=g.I b=none/\∀x∈g.ρ,x.2≠b
section
variable(W:Wd) (g:Gh) (h:Heap)
noncomputable def LR (ov:Option Value)(b:Addr):LV->Prop
 |.unset=>True
 |.val x=>∃v,ov=some v/\VR W.w g x v
 |.ml xs=>ov=some (.ref b)/\fh W.w g h b xs
 |.md S=>ov=some (.ref b)/\DR W.w g h b S
structure pd (c:Str)(a d:Addr)(m:Str->Option Value):Prop where
 known:(f5.lookup c).isSome=true
 obj:∃o,h.get? a=some o/\o.cls=.ref (W.eE c)/\(∀z,o.data≠.cls z)/\o.dict=some d
 apart:d≠a
 ns:h.Ns1 d m
 only:∀y,(m y).isSome=true->je y=true
def wY (fs:List (Str×V))(m:Str->Option Value):Prop:=∀y,(fs.lookup y=none/\m y=none)\/∃v u,fs.lookup y=some v/\m y=some u/\VR W.w g v u
noncomputable def OR (a d:Addr):O->Prop
 |.list xs=>a=d/\fh W.w g h d xs
 |.dict S=>a=d/\DR W.w g h d S
 |.inst c fs=>(∃o,g.I a=some o)/\∃m,pd W h c a d m/\wY W g fs m
end
structure Rl (W:Wd)(σ:St)(k:az):Prop where
 ag:k.g.In k.h
 obj:∀j o,σ.get j=some o->∃a d,k.g.ρ[j]?=some (a,d)/\OR W k.g k.h a d o
 sep:k.g.ρ.Pairwise λx y=>x.2≠y.2
 new:k.g.ρ.length=σ.next
 d8:∀x∈k.g.ρ,k.g.I x.2=none/\x.2<k.top
 top:∀j o,σ.get j=some o->j<σ.next
def At (env:Env)(h:Heap)(y:Str)(ov:Option Value):Prop:=match env.kindOf y with
 |some .local=>∃m,h.Ns env.locals m/\m y=ov
 |some .cell=>∃b,env.cells.lookup y=some b/\h.IsCell b ov
 |some .free=>∃b,env.cells.lookup y=some b/\h.IsCell b ov
 |_=>True
structure Fr {W:Wd}{n:Nat}(c:Cx W n)(x:X)(k:az):Prop where
 sc:x.sc=c.sc
 ns:∃m,k.h.Ns c.env.locals m
 var:∀y lv,x.vars.lookup y=some lv->∃ov,At c.env k.h y ov/\LR W k.g k.h ov (k.loc y) lv
 jx:My k.g c.env.locals/\c.B<=c.env.locals
 dY:∀p∈c.env.cells,My k.g p.2/\c.B<=p.2/\p.2<k.top/\p.2≠c.env.locals
 gX:∀y lv,x.vars.lookup y=some lv->lv.own=true->My k.g (k.loc y)/\c.B<=k.loc y/\k.loc y≠c.env.locals/\∀p∈c.env.cells,p.2≠k.loc y
 inj:∀y z ly lz,x.vars.lookup y=some ly->x.vars.lookup z=some lz->ly.own=true->lz.own=true->y≠z->k.loc y≠k.loc z
def lE (x:X)(k:az)(b:Addr):Prop:=∃y lv,x.vars.lookup y=some lv/\lv.own=true/\k.loc y=b
def bR (env:Env)(x:X)(k:az)(b:Addr):Prop:=b=env.locals\/(∃p∈env.cells,p.2=b)\/lE x k b
def bP (_:Addr):Prop:=False
structure Go (P R:Addr->Prop)(k k':az):Prop where
 rest:∃h tk,k.s.toks<=tk/\k'.s={k.s with heap:=h,toks:=tk}
 size:k.top<=k'.top
 le:k.g.Le k'.g
 quiet:∀b,b<k.top->k.g.I b=none->k'.g.I b=none\/P b
 fresh:∀x∈k'.g.ρ,x∈k.g.ρ\/k.top<=x.2
 kept:∀b o,k.h.get? b=some o->(∀x∈k.g.ρ,x.2≠b)->k'.h.get? b=some o\/R b
def Go.refl {P R:Addr->Prop}{k:az}:Go P R k k:=⟨(ax _ _ (nR _) rfl),nR _,.refl _,λ_ _ e=>.inl e,λ_ h=>.inl h,λ_ _ e _=>.inl e⟩
def Go.trans {P R P' R':Addr->Prop}{k k₁ k₂:az}(x:Go P R k k₁)(y:Go P' R' k₁ k₂)(hP:∀b,P' b->b<k.top->P b)(hR:∀b,R' b->b<k.top->R b):Go P R k k₂ where
 rest:=by refine aG x.rest λh t l e=>?_;refine aG y.rest λh' t' l' e'=>?_;exact ax h' t' (nT l (by rw [e] at l';exact l')) (by rw [e',e])
 size:=nT x.size y.size
 le:=x.le.trans y.le
 quiet:=λb hb e=>(x.quiet b hb e).elim (λq=>(y.quiet b (lL hb x.size) q).imp id λr=>hP b r hb) .inr
 fresh:=λz hz=>(y.fresh z hz).elim (x.fresh z) λq=>.inr (nT x.size q)
 kept:=λb o e m=>by exact (x.kept b o e m).elim (λq=>(y.kept b o q λz hz=>(x.fresh z hz).elim (m z) λr q=>absurd r (Nat.not_le.mpr (q▸(Heap.lt_size e)))).imp id λr=>hR b r (Heap.lt_size e)) .inr
def Go.mono {P R P' R':Addr->Prop}{k k':az}(x:Go P R k k')(hP:∀b,P b->b<k.top->P' b)(hR:∀b,R b->b<k.top->R' b):Go P' R' k k':=⟨x.rest,x.size,x.le,λb hb e=>(x.quiet b hb e).imp id λq=>hP b q hb,x.fresh,λb o e m=>(x.kept b o e m).imp id λq=>hR b q (Heap.lt_size e)⟩
def Go.of0 {P R:Addr->Prop}{k k':az}(x:Go bP bP k k'):Go P R k k':=x.mono (λ_ q _=>q.elim) λ_ q _=>q.elim
def My.go {P R:Addr->Prop}{k k':az}{b:Addr}(m:My k.g b)(hb:b<k.top)(x:Go P R k k')(hP:¬P b):My k'.g b:=⟨(x.quiet b hb m.1).resolve_right hP,λz hz=>(x.fresh z hz).elim (m.2 z) λq r=>absurd q (Nat.not_le.mpr (r▸hb))⟩
section
variable{W:Wd} {n:Nat} {c:Cx W n} {g g':Gh} {h h':Heap}
def LR.mono {lv:LV}{ov:Option Value}{b:Addr}(x:LR W g h ov b lv)(l:g.Le g')(hk:lv.own=true->∀o,h.get? b=some o->h'.get? b=some o):LR W g' h' ov b lv:=by
 induction lv with
 |unset=>trivial
 |val v=>refine aq x λu e r=>?_;exact af u e (r.mono l)
 |ml xs=>exact ⟨x.1,x.2.mono l (hk rfl)⟩
 |md S=>exact ⟨x.1,x.2.mono l (hk rfl)⟩
def LR.lt {lv:LV}{ov:Option Value}{b:Addr}(x:LR W g h ov b lv)(ho:lv.own=true):b<h.objs.size:=by
 induction lv with
 |unset=>exact aS ho
 |val v=>exact aS ho
 |ml xs=>obtain ⟨_,_,_,q,_⟩:=x;exact Heap.lt_size q
 |md S=>obtain ⟨_,_,_,_,q,_⟩:=x;exact Heap.lt_size q
def OR.mono {o:O}{a d:Addr}(x:OR W g h a d o)(l:g.Le g')(ag:g'.In h')(hk:∀o,h.get? d=some o->h'.get? d=some o)(gY:g.In h):OR W g' h' a d o:=by
 induction o with
 |list xs=>exact ⟨x.1,x.2.mono l hk⟩
 |dict S=>exact ⟨x.1,x.2.mono l hk⟩
 |inst c fs=>refine bc λlG=>?_;obtain ⟨⟨o,i⟩,m,⟨z,⟨o',a1,a2⟩,ne,ns,on⟩,f⟩:=x;obtain rfl:=oj ((gY _ _ i).symm.trans a1);exact lG (⟨⟨o,l.I _ _ i⟩,m,⟨z,(af o (ag _ _ (l.I _ _ i)) a2),ne,ns.at hk,on⟩,λy=>(f y).imp id λjo=>aw jo λv u p q r=>(aD v u p q (r.mono l))⟩)
def At.move {h':Heap}{env:Env}{y:Str}{ov:Option Value}(x:At env h y ov)(l:∀m,h.Ns env.locals m->m y=ov->∃m',h'.Ns env.locals m'/\m' y=ov)(c:∀q,env.cells.lookup y=some q->h.IsCell q ov->h'.IsCell q ov):At env h' y ov:=by
 unfold At at x⊢;split at x
 ·exact x.elim λm q=>l m q.1 q.2
 ·exact (λ⟨b,e,q⟩=>⟨b,e,c b e q⟩) x
 ·exact (λ⟨b,e,q⟩=>⟨b,e,c b e q⟩) x
 ·trivial
def At.mono {env:Env}{y:Str}{ov:Option Value}(x:At env h y ov)(hL:∀o,h.get? env.locals=some o->h'.get? env.locals=some o)(hC:∀p∈env.cells,∀o,h.get? p.2=some o->h'.get? p.2=some o):At env h' y ov:=x.move (λm n e=>(af m (n.at hL) e)) λq e z=>z.elim λo z=>af o (hC _ (mem_of_lookup e) _ z.1) z.2
variable{x:X} {k k':az}
def Fr.lt (f:Fr c x k){b:Addr}(hm:bR c.env x k b):b<k.top/\c.B<=b/\My k.g b:=by
 refine aM f.ns λm n1=>?_;rcases hm with rfl|⟨p,hp,rfl⟩|⟨y,lv,a,ho,rfl⟩
 ·exact bx n1.lt f.jx.2 f.jx.1
 ·exact bx ((f.dY p hp).2.2.1) ((f.dY p hp).2.1) ((f.dY p hp).1)
 ·exact aq (f.var y lv a) λov _ l=>bx (l.lt ho) ((f.gX y lv a ho).2.1) ((f.gX y lv a ho).1)
def Fr.go (f:Fr c x k){P R:Addr->Prop}(g:Go P R k k')(hl:k'.loc=k.loc)(hP:∀b,bR c.env x k b->¬P b)(hR:∀b,bR c.env x k b->¬R b):Fr c x k':=by
 have kp:=λb hb o e=>(g.kept b o e (f.lt hb).2.2.2).resolve_right (hR b hb);have my:=λb hb=>(f.lt hb).2.2.go (f.lt hb).1 g (hP b hb);have mL:bR c.env x k c.env.locals:=.inl rfl;have mC:∀p∈c.env.cells,bR c.env x k p.2:=λp hp=>.inr (.inl (af p hp rfl));have mO:∀y lv,x.vars.lookup y=some lv->lv.own=true->bR c.env x k (k.loc y):=λy lv a b=>.inr (.inr (aD y lv a b rfl));refine n_ f.ns λm o S ep r q=>⟨f.sc,(pF m o S ep (kp _ mL _ r) q),λy lv a=>?_,⟨my _ mL,f.jx.2⟩,λp hp=>?_,λy lv a ho=>?_,hl▸f.inj⟩
 ·exact aq (f.var y lv a) λov p l=>af ov (p.mono (kp _ mL) λq hq=>kp _ (mC q hq)) (hl▸l.mono g.le λho=>kp _ (mO y lv a ho))
 ·exact jm (f.dY p hp) λa b d e=>eQ (my _ (mC p hp)) b (lL d g.size) e
 ·refine hl.symm▸?_;exact ⟨my _ (mO y lv a ho),(f.gX y lv a ho).2⟩
end
structure Ext (s s':Shared):Prop where
 rest:∃h tk,s.toks<=tk/\s'={s with heap:=h,toks:=tk}
 size:s.heap.objs.size<=s'.heap.objs.size
 kept:∀b o,s.heap.get? b=some o->s'.heap.get? b=some o
def Ext.refl {s:Shared}:Ext s s:=⟨(ax _ _ (nR _) rfl),nR _,λ_ _ e=>e⟩
def Ext.tok {s:Shared}(t:Nat)(h:s.toks<=t):Ext s {s with toks:=t}:=⟨(ax _ _ h rfl),nR _,λ_ _ e=>e⟩
def Ext.push {s:Shared}(o:Obj):Ext s {s with heap:=s.heap.push o}:=⟨(ax _ _ (nR _) rfl),by show _<=(s.heap.push o).objs.size;rw [Heap.size_push];exact lS _,λ_ _ e=>Heap.get?_push_of_some _ e⟩
def Ext.trans {s s' jT:Shared}(x:Ext s s')(y:Ext s' jT):Ext s jT:=⟨by(refine aG x.rest λ_ _ l cG=>?_;subst cG);(refine aG y.rest λ_ _ l' fj=>?_;subst fj);exact (ax _ _ (nT l l') rfl),nT x.size y.size,λb o e=>y.kept b o (x.kept b o e)⟩
def eR {h:Heap}{o:Obj}(ho:o.isFreed=false):(h.push o).get? h.objs.size=some o:=Heap.get?_push_size h ho
noncomputable def Gh.add (g:Gh)(b:Addr)(o:Obj):Gh:=⟨λa=>if a=b then some o else g.I a,g.ρ⟩
def Gh.k0 {g:Gh}{b:Addr}{o:Obj}(h:g.I b=none):g.Le (g.add b o):=⟨λa x e=>by show(if a=b then some o else g.I a)=some x;rw [if_neg (by rintro rfl;replace e:=h▸e;exact aF e)];exact e,List.prefix_refl _⟩
def Gh.nO {g:Gh}{b:Addr}{o:Obj}:(g.add b o).I b=some o:=if_pos rfl
def Gh.nP {g:Gh}{a b:Addr}{o:Obj}(h:a≠b):(g.add b o).I a=g.I a:=if_neg h
def Gh.In.add {g:Gh}{b:Addr}{o:Obj}{h:Heap}(x:g.In h)(e:h.get? b=some o):(g.add b o).In h:=λa y q=>by
 by_cases r:a=b
 ·subst r;obtain rfl:=oj ((Gh.nO).symm.trans q);exact e
 ·exact x a y ((Gh.nP r).symm.trans q)
def Gh.In.none {g:Gh}{h:Heap}(ag:g.In h){a:Addr}(q:h.objs.size<=a):g.I a=none:=by
 generalize e:g.I a=z_;induction z_ with
 |none=>rfl
 |some o=>exact absurd (Heap.lt_size (ag _ _ e)) (gW q)
section
variable{W:Wd} {n:Nat}
structure Inv (c:Cx W n)(x:X)(k:az):Prop where
 tk:0<k.s.toks
 top:∀b o,W.eF b=some o->k.g.I b=some o
 rl:Rl W x.st k
 fr:Fr c x k
structure aL (c:Cx W n)(aI:X)(aC:az)(x:X)(k:az):Prop where
 inv:Inv c x k
 go:Go (lE aI aC) bP aC k
 own:∀b,lE x k b->lE aI aC b
structure fL (c:Cx W n)(aI:X)(aC:az)(x:X)(k:az):Prop where
 inv:Inv c x k
 go:Go (bR c.env aI aC) (bR c.env aI aC) aC k
 own:∀b,bR c.env x k b->bR c.env aI aC b\/aC.top<=b
def Got (W:Wd)(t:Nat)(k:az)(lv:LV)(u:Value):Prop:=∃b,LR W k.g k.h (some u) b lv/\(lv.own=true->My k.g b/\t<=b)
def lH (c:Cx W n)(k:az)(lv:LV)(u:Value):Prop:=∃b,LR W k.g k.h (some u) b lv/\(lv.own=true->My k.g b/\c.B<=b)
structure Lf (k k':az):Prop where
 ext:Ext k.s k'.s
 le:k.g.Le k'.g
 ag:k'.g.In k'.h
 quiet:∀b,b<k.top->k.g.I b=none->k'.g.I b=none
 lU:k'.g.ρ=k.g.ρ
 loc:k'.loc=k.loc
def vz (W:Wd)(k k':az)(lv:LV)(u:Value):Prop:=∃b,LR W k'.g k'.h (some u) b lv/\(lv.own=true->k.top<=b/\k'.g.I b=none)
variable{c:Cx W n} {x x' aI:X} {k k' aC:az}
def Lf.go (l:Lf k k'):Go bP bP k k':=⟨l.ext.rest,l.ext.size,l.le,λb hb e=>.inl (l.quiet b hb e),λz hz=>.inl (l.lU▸hz),λb o e _=>.inl (l.ext.kept b o e)⟩
def Lf.dZ {s:Shared}(ag:k.g.In k.h)(e:Ext k.s s):Lf k ⟨k.g,k.loc,s⟩:=⟨e,.refl _,λb o q=>e.kept b o (ag b o q),λ_ _ q=>q,rfl,rfl⟩
def Lf.new {s:Shared}(ag:k.g.In k.h)(e:Ext k.s s){a:Addr}{o:Obj}(ha:k.top<=a)(ho:s.heap.get? a=some o):Lf k ⟨k.g.add a o,k.loc,s⟩:=⟨e,Gh.k0 (ag.none ha),Gh.In.add (λb o q=>e.kept b o (ag b o q)) ho,λb hb q=>(Gh.nP (Nat.ne_of_lt (lL hb ha))).trans q,rfl,rfl⟩
def vz.val {v:V}{u:Value}(r:VR W.w k'.g v u):vz W k k' (.val v) u:=(af 0 (af u rfl r) (λh=>aS h))
def Rl.ext {σ:St}(r:Rl W σ k)(l:k.g.Le k'.g)(ag:k'.g.In k'.h)(hr:k'.g.ρ=k.g.ρ)(hm:∀z∈k.g.ρ,k'.g.I z.2=none)(hs:k.top<=k'.top)(hk:∀z∈k.g.ρ,∀o,k.h.get? z.2=some o->k'.h.get? z.2=some o):Rl W σ k':=⟨ag,λj o e=>by refine aG (r.obj j o e) λa d q y=>?_;exact (ax a d (hr▸q) (y.mono l ag (hk _ (dU q)) r.ag)),hr▸r.sep,hr▸r.new,λz hz=>by rw [hr] at hz;exact ⟨hm z hz,lL (r.d8 z hz).2 hs⟩,r.top⟩
def Go.tk {P R:Addr->Prop}(g:Go P R k k')(h:0<k.s.toks):0<k'.s.toks:=by refine aG g.rest λ_ t l e=>?_;rw [e];exact lL h l
def Inv.lf (p:Inv c x k)(l:Lf k k'):Inv c x k':=⟨l.go.tk p.tk,λb o q=>l.le.I b o (p.top b o q),p.rl.ext l.le l.ag l.lU (λz hz=>l.quiet _ (p.rl.d8 z hz).2 (p.rl.d8 z hz).1) l.ext.size λz _ o q=>l.ext.kept _ o q,p.fr.go l.go l.loc (λ_ _ q=>q) λ_ _ q=>q⟩
def Inv.ag (p:Inv c x k):k.g.In k.h:=p.rl.ag
def Inv.g_ (p:Inv c x k):∀b o,W.eF b=some o->k.h.get? b=some o:=λb o q=>p.rl.ag _ _ (p.top _ _ q)
def Cx.units (c:Cx W n):c.A.units+250<cLine:=Nat.lt_of_le_of_lt (Nat.add_le_add (lA _ _) (nl rfl)) c.rm.units
def qx (h:k'.loc=k.loc):lE x k'=lE x k:=by delta lE;exact h.symm▸rfl
def we {env:Env}(h:k'.loc=k.loc):bR env x k'=bR env x k:=by delta bR;exact (qx h).symm▸rfl
def kQ {env:Env}{b:Addr}(h:bR env x k b)(o:∀b,lE x k b->lE aI aC b):bR env aI aC b:=h.imp id λq=>q.imp id (o b)
def Inv.jU (p:Inv c x k){b:Addr}(h:k.top<=b):¬bR c.env x k b:=λq=>absurd (p.fr.lt q).1 (gW h)
def Inv.base (p:Inv c x k){b:Addr}(h:k.top<=b):c.B<=b:=nT (p.fr.lt (.inl rfl)).2.1 (nT (Nat.le_of_lt (p.fr.lt (.inl rfl)).1) h)
def Inv.my (p:Inv c x k){g:Gh}{b:Addr}(h:k.top<=b)(hi:g.I b=none)(hr:g.ρ=k.g.ρ):My g b:=⟨hi,λz hz q=>absurd (p.rl.d8 z (hr▸hz)).2 (by refine q.symm▸?_;exact gW h)⟩
def aL.refl (p:Inv c x k):aL c x k x k:=⟨p,.refl,λ_ q=>q⟩
def fL.refl (p:Inv c x k):fL c x k x k:=⟨p,.refl,λ_ q=>.inl q⟩
def aL.trans (a:aL c aI aC x k)(b:aL c x k x' k'):aL c aI aC x' k':=⟨b.inv,a.go.trans b.go (λz q _=>a.own z q) λ_ q _=>q,λz q=>a.own z (b.own z q)⟩
def fL.trans (a:fL c aI aC x k)(b:fL c x k x' k'):fL c aI aC x' k':=⟨b.inv,a.go.trans b.go (λz q h=>(a.own z q).resolve_right (Nat.not_le.mpr h)) λz q h=>(a.own z q).resolve_right (Nat.not_le.mpr h),λz q=>(b.own z q).elim (a.own z) λh=>.inr (nT a.go.size h)⟩
def aL.toS (a:aL c aI aC x k):fL c aI aC x k:=⟨a.inv,a.go.mono (λ_ q _=>.inr (.inr q)) λ_ q _=>q.elim,λ_ q=>.inl (kQ q a.own)⟩
def aL.lf (a:aL c aI aC x k)(l:Lf k k'):aL c aI aC x k':=⟨a.inv.lf l,a.go.trans l.go (λ_ q _=>q.elim) λ_ q _=>q,by refine (qx l.loc).symm▸?_;exact a.own⟩
def Inv.tok (p:Inv c x k)(t:Nat)(h:k.s.toks<=t):Lf k (k.tok t):=.dZ p.ag (.tok t h)
def Got.new (p:Inv c x k)(l:Lf k k'){t:Nat}(ht:t<=k.top){lv:LV}{u:Value}(h:vz W k k' lv u):Got W t k' lv u:=by exact aq h λb r f=>af b r (λo=>⟨p.my (f o).1 (f o).2 l.lU,nT ht (f o).1⟩)
def Got.Cv (p:Inv c aI aC){lv:LV}{u:Value}(h:Got W aC.top k lv u):lH c k lv u:=by exact aq h λb r f=>af b r (λo=>⟨(f o).1,p.base (f o).2⟩)
def Got.weak {t t':Nat}(h:t'<=t){lv:LV}{u:Value}(r:Got W t k lv u):Got W t' k lv u:=by exact aq r λb r f=>af b r (λo=>⟨(f o).1,nT h (f o).2⟩)
def Got.val {t:Nat}{v:V}{u:Value}(r:VR W.w k.g v u):Got W t k (.val v) u:=(af 0 (af u rfl r) (λh=>aS h))
def lH.val {v:V}{u:Value}(r:VR W.w k.g v u):lH c k (.val v) u:=(af 0 (af u rfl r) (λh=>aS h))
def lH.fu {v:V}{u:Value}(r:lH c k (.val v) u):VR W.w k.g v u:=by refine aq r λ_ nh _=>aq nh λ_ e r=>?_;obtain rfl:=oj e;exact r
def Got.fu {t:Nat}{v:V}{u:Value}(r:Got W t k (.val v) u):VR W.w k.g v u:=by refine aq r λ_ iF _=>aq iF λ_ e r=>?_;obtain rfl:=oj e;exact r
def lH.later {lv:LV}{u:Value}(h:lH c k lv u){P:Addr->Prop}(g:Go P bP k k'):∃b,LR W k'.g k'.h (some u) b lv:=by exact aq h λb r f=>⟨b,r.mono g.le λho o q=>(g.kept b o q (f ho).1.2).resolve_right id⟩
def aL.freeze (p:Inv c aI aC)(a:aL c aI aC x k){b:Addr}{o:Obj}(hb:k.h.get? b=some o)(my:My k.g b)(h0:aC.top<=b):aL c aI aC x ⟨k.g.add b o,k.loc,k.s⟩:=by
 have g:Go (·=b) bP k ⟨k.g.add b o,k.loc,k.s⟩:=⟨(ax _ _ (nR _) rfl),nR _,Gh.k0 my.1,λa _ ha=>by
  by_cases q:a=b
  ·exact .inr q
  ·exact .inl ((Gh.nP q).trans ha),λ_ h=>.inl h,λ_ _ e _=>.inl e⟩
 exact ⟨⟨g.tk a.inv.tk,λb o q=>g.le.I b o (a.inv.top b o q),a.inv.rl.ext g.le (a.inv.ag.add hb) rfl (λz hz=>(Gh.nP (my.2 z hz)).trans (a.inv.rl.d8 z hz).1) (nR _) λ_ _ _ e=>e,a.inv.fr.go g rfl (λz hz q=>p.jU h0 (q▸kQ hz a.own)) λ_ _ q=>q⟩,
  a.go.trans g (λz q h=>absurd h (gW (q▸h0))) λ_ q _=>q,a.own⟩
def aL.taken (p:Inv c aI aC)(a:aL c aI aC x k){lv:LV}{v:V}{u:Value}(h:Got W aC.top k lv u)(hv:lv.frozen=some v):∃g,aL c aI aC x ⟨g,k.loc,k.s⟩/\k.g.Le g/\VR W.w g v u:=by
 refine aq h λb r f=>?_
 induction lv with
 |unset=>exact aF hv
 |val y=>(injection hv with q_;subst q_);refine aq r λ_ e r=>?_;obtain rfl:=oj e;exact bX k.g a (.refl _) r
 |ml xs=>(injection hv with q_;subst q_);obtain ⟨e,T,m,q,r⟩:=r;obtain rfl:=oj e;obtain ⟨my,h0⟩:=f rfl;exact bX _ (a.freeze p q my h0) (Gh.k0 my.1) (.list Gh.nO (r.mono (Gh.k0 my.1)))
 |md S=>(injection hv with q_;subst q_);obtain ⟨e,o,ds,ep,q,d,r⟩:=r;obtain rfl:=oj e;obtain ⟨my,h0⟩:=f rfl;exact bX _ (a.freeze p q my h0) (Gh.k0 my.1) (.dict Gh.nO d (r.mono (Gh.k0 my.1)))
end
def D_ {α:Type}{put:List (Str×α)->Str->α->List (Str×α)}(h0:∀n v,put [] n v=[(n,v)])(H:∀y w r n v,put ((y,w)::r) n v=if y==n then(y,v)::r else(y,w)::put r n v)
  (T:List (Str×α)) (n:Str) (v:α) (y:Str):(put T n v).lookup y=if y=n then some v else T.lookup y:=by
 induction T with
 |nil=>
  rw [h0,List.lookup_cons];by_cases h:y=n
  ·rw [if_pos h,bI h]
  ·rw [if_neg h,bN h]
 |cons p r ih=>
  obtain ⟨z,w⟩:=p;rw [H];by_cases hz:z=n
  ·rw [if_pos (bI hz),List.lookup_cons,List.lookup_cons];by_cases h:y=n
   ·rw [if_pos h,bI (h.trans hz.symm)]
   ·rw [if_neg h,bN (hz▸h)]
  ·rw [if_neg (by rw [beq_iff_eq];exact hz),List.lookup_cons,List.lookup_cons,ih];by_cases h:y=z
   ·subst h;rw [beq_self_eq_true,if_neg hz,if_neg hz]
   ·rw [bN h]
def zh (T:bL)(n:Str)(v:LV)(y:Str):(uI T n v).lookup y=if y=n then some v else T.lookup y:=D_ (λ_ _=>rfl) (λ_ _ _ _ _=>rfl) T n v y
def nQ {x:X}{y:Str}{lv:LV}:(x.put y lv).vars.lookup y=some lv:=(zh ..).trans (if_pos rfl)
def k5 {x:X}{y z:Str}{lv:LV}(h:z≠y):(x.put y lv).vars.lookup z=x.vars.lookup z:=(zh ..).trans (if_neg h)
section
variable{W:Wd} {n:Nat} {c:Cx W n} {x:X} {k k':az}
def Fr.put (f:Fr c x k){y:Str}{lv:LV}(l:k.g.Le k'.g)(hl:∀z,z≠y->k'.loc z=k.loc z)(hs:k.top<=k'.top)
  (hL:My k'.g c.env.locals) (hC:∀p∈c.env.cells,My k'.g p.2) (hO:∀z lz,z≠y->x.vars.lookup z=some lz->lz.own=true->My k'.g (k.loc z)/\∀o,k.h.get? (k.loc z)=some o->k'.h.get? (k.loc z)=some o)
  (hn:∃m,k'.h.Ns c.env.locals m) (hA:∀z ov,z≠y->At c.env k.h z ov->At c.env k'.h z ov) (hy:∃ov,At c.env k'.h y ov/\LR W k'.g k'.h ov (k'.loc y) lv)
  (ho:lv.own=true->(My k'.g (k'.loc y)/\c.B<=k'.loc y/\k'.loc y≠c.env.locals/\∀p∈c.env.cells,p.2≠k'.loc y)/\∀z lz,z≠y->x.vars.lookup z=some lz->lz.own=true->k.loc z≠k'.loc y):Fr c (x.put y lv) k':=by
 refine ⟨f.sc,hn,λz lz h=>?_,⟨hL,f.jx.2⟩,λp hp=>?_,λz lz h o=>?_,λz z' lz JQ h h' o o' ne=>?_⟩
 ·by_cases q:z=y
  ·subst q;obtain rfl:=oj (nQ.symm.trans h);exact hy
  ·replace h:=(k5 q)▸h;exact aq (f.var z lz h) λov a r=>af ov (hA z ov q a) (hl z q▸r.mono l λo=>(hO z lz q h o).2)
 ·exact jm (f.dY p hp) λ_ b d e=>eQ (hC p hp) b (lL d hs) e
 ·by_cases q:z=y
  ·subst q;obtain rfl:=oj (nQ.symm.trans h);exact (ho o).1
  ·rw [k5 q] at h;exact (hl z q).symm▸(⟨(hO z lz q h o).1,(f.gX z lz h o).2⟩)
 ·by_cases q:z=y
  ·subst q;obtain rfl:=oj (nQ.symm.trans h);rw [k5 (Ne.symm ne)] at h';exact (hl z' (Ne.symm ne)).symm▸(λe=>(ho o).2 z' JQ (Ne.symm ne) h' o' e.symm)
  ·rw [k5 q] at h;refine (hl z q).symm▸?_;by_cases q':z'=y
   ·subst q';obtain rfl:=oj (nQ.symm.trans h');exact (ho o').2 z lz q h o
   ·rw [k5 q'] at h';exact (hl z' q').symm▸(f.inj z z' lz JQ h h' o o' ne)
def wI (f:Fr c x k){y m:Str}(hv:iN (x.sc.lookup y)=true)(hm:c.sc.lookup m=none):(y==m)=false:=by rw [beq_eq_false_iff_ne];rintro rfl;replace hv:=hm▸f.sc▸hv;exact aS hv
def LR.some_of {g:Gh}{h:Heap}{ov:Option Value}{b:Addr}{lv iG:LV}(r:LR W g h ov b lv)(hs:lv.set=some iG):iG=lv/\∃u,ov=some u:=by
 induction lv with
 |unset=>exact aF hs
 |val v=>refine aq r λu e _=>?_;exact ⟨(oj hs).symm,u,e⟩
 |ml xs=>exact ⟨(oj hs).symm,_,r.1⟩
 |md S=>exact ⟨(oj hs).symm,_,r.1⟩
def Fr.load (f:Fr c x k){y:Str}{lv iG:LV}(hv:iN (x.sc.lookup y)=true)(Y:x.vars.lookup y=some lv)(hs:lv.set=some iG):
  iG=lv/\∃u,LR W k.g k.h (some u) (k.loc y) lv/\∀{Q:Value->Shared->Prop},Q u k.s->wpAny (Md W.w) c.A (loadName c.env y) Q aA k.s:=by
 refine bc λdn=>aq (f.var y lv Y) λov a r=>?_;obtain ⟨e,u,rfl⟩:=r.some_of hs;refine dn (⟨e,u,r,λq=>?_⟩);delta At at a;refine (c.fs.vk y (f.sc▸hv)).elim (λhk=>?_) (λjw=>jw.elim (λhk=>?_) (λhk=>?_))<;>rw [hk] at a
 ·refine aq a λm n1 e=>?_;exact wpAny_loadName_local c.fs.kind hk n1 e q
 ·obtain ⟨b,e,z⟩:=a;exact wpAny_loadName_cell c.fs.kind hk e z q
 ·obtain ⟨b,e,z⟩:=a;exact wpAny_loadName_free c.fs.kind hk e z q (wI f hv c.fs.kG)
def Inv.Qc (p:Inv c x k){y:Str}{lv:LV}{v:V}{u:Value}(Y:x.vars.lookup y=some lv)(ho:lv.own=true)(hf:lv.frozen=some v)(r:LR W k.g k.h (some u) (k.loc y) lv):
  ∃g,aL c x k (x.put y (.val v)) ⟨g,k.loc,k.s⟩/\VR W.w g v u:=by
 refine jm (p.fr.gX y lv Y ho) λmy hB hL hC=>?_;have key:∀{o:Obj},k.h.get? (k.loc y)=some o->VR W.w (k.g.add (k.loc y) o) v u->∃g,aL c x k (x.put y (.val v)) ⟨g,k.loc,k.s⟩/\VR W.w g v u:=λ{o} hb hv=>by
  have l:k.g.Le (k.g.add (k.loc y) o):=Gh.k0 my.1;have Dh:∀{b:Addr},My k.g b->b≠k.loc y->My (k.g.add (k.loc y) o) b:=λm q=>⟨(Gh.nP q).trans m.1,m.2⟩;refine af _ ⟨⟨by exact p.tk,λb o q=>l.I b o (p.top b o q),p.rl.ext l (p.ag.add hb) rfl (λz hz=>(Gh.nP (my.2 z hz)).trans (p.rl.d8 z hz).1) (nR _) λ_ _ _ e=>e,?_⟩,⟨(ax _ _ (nR _) rfl),nR _,l,λa _ ha=>?_,λ_ h=>.inl h,λ_ _ e _=>.inl e⟩,λb vA=>?_⟩ hv
  ·refine aq (p.fr.var y lv Y) λov a r'=>?_;have e:ov=some u:=by cases lv<;>first|exact absurd ho gi|exact r'.1.trans r.1.symm
   exact p.fr.put l (λ_ _=>rfl) (nR _) (Dh p.fr.jx.1 (Ne.symm hL)) (λq hq=>Dh (p.fr.dY q hq).1 (hC q hq)) (λz lz hz h o=>⟨Dh (p.fr.gX z lz h o).1 (p.fr.inj z y lz lv h Y o ho hz),λ_ q=>q⟩) p.fr.ns (λ_ _ _ q=>q) ⟨ov,a,u,e,hv⟩ λq=>aS q
  ·by_cases q:a=k.loc y
   ·exact .inr (aD y lv Y ho q.symm)
   ·exact .inl ((Gh.nP q).trans ha)
  ·refine aw vA λz lz H M h3=>?_;by_cases q:z=y
   ·subst q;obtain rfl:=oj (nQ.symm.trans H);exact aS M
   ·exact aD z lz ((k5 q).symm.trans H) M h3
 induction lv with
 |unset=>exact aS ho
 |val v=>exact aS ho
 |ml xs=>obtain rfl:=oj hf;obtain ⟨e,T,m,q,r⟩:=r;obtain rfl:=oj e;exact key q (.list Gh.nO (r.mono (Gh.k0 my.1)))
 |md S=>obtain rfl:=oj hf;obtain ⟨e,o,ds,ep,q,d,r⟩:=r;obtain rfl:=oj e;exact key q (.dict Gh.nO d (r.mono (Gh.k0 my.1)))
end
section
variable{W:Wd} {n:Nat} {c:Cx W n} {x aI:X} {k k' aC:az}
def HQ {h:Heap}{a:Addr}{m m':Str->Option Value}(x:h.Ns a m)(y:h.Ns a m')(z:Str):m z=m' z:=by refine bc λbu=>eP x λo S ep e d _ f=>eP y λo' kI JR e' d' _ f'=>?_;obtain rfl:=oj (e.symm.trans e');(injection d.symm.trans d' with q_;subst q_);exact bu ((f z)▸(f' z).symm▸rfl)
def zQ {y:Str}(h:x.has y=true):(x.sc.lookup y=some .local\/x.sc.lookup y=some .cell)/\∃lv,x.vars.lookup y=some lv:=by unfold X.has at h;rw [Bool.and_eq_true,Bool.or_eq_true,beq_iff_eq,beq_iff_eq] at h;exact ⟨h.1,iE h.2⟩
def qc (c:Cx W n)(a:Addr):Prop:=a=c.env.locals\/((∃y,c.sc.lookup y=some .cell)/\∃p∈c.env.cells,p.2=a)
def qc.bR {a:Addr}(h:qc c a):bR c.env x k a:=h.imp id λq=>.inl q.2
def Rl.mR {σ:St}(r:Rl W σ k){d:Addr}{h':Heap}{t:Nat}{l:Str->Addr}(hs:Heap.SameBut d k.h h')(my:My k.g d):Rl W σ ⟨k.g,l,{k.s with heap:=h',toks:=t}⟩:=r.ext (.refl _) (λb o q=>(hs.2 b (by rintro rfl;replace q:=my.1▸q;exact aF q)).trans (r.ag b o q)) rfl (λz hz=>(r.d8 z hz).1) (Nat.le_of_eq hs.1.symm) λz hz o q=>(hs.2 _ (my.2 z hz)).trans q
def Go.mR {d:Addr}{h':Heap}{t:Nat}{l:Str->Addr}{R:Addr->Prop}(hs:Heap.SameBut d k.h h')(hd:R d)(ht:k.s.toks<=t):Go bP R k ⟨k.g,l,{k.s with heap:=h',toks:=t}⟩:=
 ⟨(ax _ _ ht rfl),Nat.le_of_eq hs.1.symm,.refl _,λ_ _ q=>.inl q,λ_ h=>.inl h,λa o q _=>by
  by_cases ha:a=d
  ·exact .inr (ha▸hd)
  ·exact .inl ((hs.2 a ha).trans q)⟩
noncomputable def upd (loc:Str->Addr)(y:Str)(b:Addr):Str->Addr:=λz=>if z=y then b else loc z
def AP {loc:Str->Addr}{y:Str}{b:Addr}:upd loc y b y=b:=if_pos rfl
def G5 {loc:Str->Addr}{y z:Str}{b:Addr}(h:z≠y):upd loc y b z=loc z:=if_neg h
def Inv.put (p:Inv c x k){y:Str}{lv:LV}{u:Value}{b d:Addr}{h':Heap}{t:Nat}(r:LR W k.g k.h (some u) b lv)(ho:lv.own=true->My k.g b/\c.B<=b/\¬bR c.env x k b)(hd:qc c d)(hs:Heap.SameBut d k.h h')
  (hn:∃m,h'.Ns c.env.locals m) (hA:∀z ov,z≠y->At c.env k.h z ov->At c.env h' z ov) (hy:At c.env h' y (some u)) (ht:k.s.toks<=t):
  Inv c (x.put y lv) ⟨k.g,upd k.loc y b,{k.s with heap:=h',toks:=t}⟩/\Go bP (qc c) k ⟨k.g,upd k.loc y b,{k.s with heap:=h',toks:=t}⟩/\∀a,bR c.env (x.put y lv) ⟨k.g,upd k.loc y b,{k.s with heap:=h',toks:=t}⟩ a->bR c.env x k a\/(lv.own=true/\a=b):=by
 have f:=p.fr;have dO:∀z lz,x.vars.lookup z=some lz->lz.own=true->k.loc z≠d:=λz lz h o q=>by
  refine jm (f.gX z lz h o) λ_ _ hL hC=>?_;rcases hd with e|⟨_,p,hp,e⟩
  ·exact hL (q.trans e)
  ·exact hC p hp (e.trans q.symm)
 refine bx ⟨lL p.tk ht,p.top,p.rl.mR hs ((f.lt (hd.bR (x:=x))).2.2),f.put (.refl _) (λz h=>G5 h) (Nat.le_of_eq hs.1.symm) f.jx.1 (λq hq=>(f.dY q hq).1) (λz lz _ h o=>⟨(f.gX z lz h o).1,λ_ q=>(hs.2 _ (dO z lz h o)).trans q⟩) hn hA (af (some u) hy ?_) λo=>?_⟩ (.mR (ht:=(by assumption)) hs hd) (λa q=>?_)
 ·show LR W k.g h' (some u) (upd k.loc y b y) lv;refine AP.symm▸(r.mono (.refl _) λo _ q=>(hs.2 b ?_).trans q);rintro rfl;exact (ho o).2.2 hd.bR
 ·(have mT:=(ho o);have a1:=mT.1;have a2:=mT.2.1;have a3:=mT.2.2);show(My k.g (upd k.loc y b y)/\c.B<=upd k.loc y b y/\upd k.loc y b y≠c.env.locals/\∀p∈c.env.cells,p.2≠upd k.loc y b y)/\∀z lz,z≠y->x.vars.lookup z=some lz->lz.own=true->k.loc z≠upd k.loc y b y;exact AP.symm▸(⟨(eQ a1 a2 (λq=>a3 (.inl q)) (λq hq e=>a3 (.inr (.inl (af q hq e))))),λz lz _ h o e=>a3 (.inr (.inr (aD z lz h o e)))⟩)
 ·refine q.elim (λq=>?_) (λWE=>WE.elim (λq=>?_) (λCw=>aw Cw λz lz H M h3=>?_))
  ·exact .inl (.inl q)
  ·exact .inl (.inr (.inl q))
  ·by_cases hz:z=y
   ·subst hz;obtain rfl:=oj (nQ.symm.trans H);exact .inr ⟨M,h3.symm.trans AP⟩
   ·exact .inl (.inr (.inr (aD z lz ((k5 hz).symm.trans H) M ((G5 hz).symm.trans h3))))
def Inv.store (p:Inv c x k){y:Str}(Y:x.has y=true){lv:LV}{u:Value}{b:Addr}(r:LR W k.g k.h (some u) b lv)(ho:lv.own=true->My k.g b/\c.B<=b/\¬bR c.env x k b):
  WP c (storeName c.env y u) (λ_ k'=>Inv c (x.put y lv) k'/\k'.g=k.g/\Go bP (qc c) k k'/\∀a,bR c.env (x.put y lv) k' a->bR c.env x k a\/(lv.own=true/\a=b)) k:=by
 refine bc λCy=>?_;obtain ⟨hk,old,hold⟩:=zQ Y;rw [p.fr.sc] at hk;refine aM p.fr.ns λm n1=>Cy ?_;rcases hk with hk|hk
 ·have hk:=c.fs.lk y hk;refine wpAny_storeName_local hk n1 (λh' vB hs=>?_) (by refine c.fs.kind.symm▸?_;rfl);have hA:∀z ov,z≠y->At c.env k.h z ov->At c.env h' z ov:=λz ov hz a=>a.move (λm' n2 e=>⟨_,vB,(if_neg hz).trans ((HQ n1 n2 z).trans e)⟩) λq e o=>o.elim λo o'=>⟨o,(hs.2 _ (p.fr.dY _ (mem_of_lookup e)).2.2.2).trans o'.1,o'.2⟩;refine ef (p.put (ht:=(lS _)) (t:=k.s.toks+1) r ho (.inl rfl) hs (eg _ vB) hA (by unfold At;refine hk.symm▸?_;exact (af _ vB (if_pos rfl)))) λa b d=>?_;exact d6 _ _ a rfl b d
 ·refine aq (p.fr.var y old hold) λov a _=>?_;unfold At at a;rw [(c.fs.ck y hk)] at a;refine aq a λq c1 c2=>wpAny_storeName_cell c.fs.kind (c.fs.ck y hk) c1 c2 λh' vB hs=>?_;have keep:c.env.locals≠q:=Ne.symm (p.fr.dY (y,q) (mem_of_lookup c1)).2.2.2;have hA:∀z ov,z≠y->At c.env k.h z ov->At c.env h' z ov:=λz ov hz a=>by
   have ne:∀{q'},c.env.cells.lookup z=some q'->q'≠q:=λe w=>hz (name_of_addr (c.fs.IY ⟨y,hk⟩) (mem_of_lookup e) (w▸(mem_of_lookup c1)));exact a.move (λm' n2 e=>⟨m',n2.sameBut hs keep,e⟩) λq e o=>o.elim λo o'=>⟨o,(hs.2 _ (ne e)).trans o'.1,o'.2⟩
  refine ef (p.put (ht:=(nR _)) (t:=k.s.toks) r ho (.inr ⟨⟨y,hk⟩,_,(mem_of_lookup c1),rfl⟩) hs (eg m (n1.sameBut hs keep)) hA (by unfold At;refine (c.fs.ck y hk).symm▸?_;exact (af _ c1 vB))) λa b d=>?_;exact d6 _ _ a rfl b d
def Inv.grow (p:Inv c x k){y:Str}{lv iG:LV}{h':Heap}{t:Nat}(Y:x.vars.lookup y=some lv)(ho:lv.own=true)(Zc:iG.own=true)(hs:Heap.SameBut (k.loc y) k.h h')(r:LR W k.g h' (some (.ref (k.loc y))) (k.loc y) iG)(ht:k.s.toks<=t):
  fL c x k (x.put y iG) ⟨k.g,k.loc,{k.s with heap:=h',toks:=t}⟩:=by
 have f:=p.fr;refine jm (f.gX y lv Y ho) λmy hB hL hC=>?_;have mC:∀q∈c.env.cells,∀o,k.h.get? q.2=some o->h'.get? q.2=some o:=λq hq _ e=>(hs.2 _ (hC q hq)).trans e;have mL:∀o,k.h.get? c.env.locals=some o->h'.get? c.env.locals=some o:=λ_ e=>(hs.2 _ (Ne.symm hL)).trans e;refine ⟨⟨lL p.tk ht,p.top,p.rl.mR hs my,f.put (.refl _) (λ_ _=>rfl) (Nat.le_of_eq hs.1.symm) f.jx.1 (λq hq=>(f.dY q hq).1) (λz lz hz h o=>⟨(f.gX z lz h o).1,λ_ q=>(hs.2 _ (f.inj z y lz lv h Y o ho hz)).trans q⟩) ?_ (λz ov _ a=>a.mono mL mC) ?_ λ_=>⟨(eQ my hB hL hC),λz lz hz h o=>f.inj z y lz lv h Y o ho hz⟩⟩,
  (Go.mR (ht:=(by assumption)) hs (R:=bR c.env x k) (.inr (.inr (aD y lv Y ho rfl)))).mono (λ_ q _=>q.elim) λ_ q _=>q,λa q=>.inl ?_⟩
 ·refine n_ f.ns λm o S ep r q=>?_;exact pF m o S ep (mL _ r) q
 ·refine aq (f.var y lv Y) λov a l=>?_;have e:ov=some (.ref (k.loc y)):=by cases lv<;>first|exact absurd ho gi|exact l.1
  exact af _ (a.mono mL mC) (e▸r)
 ·refine q.elim (λq=>?_) (λpL=>pL.elim (λq=>?_) (λCz=>aw Cz λz lz H M h3=>?_))
  ·exact .inl q
  ·exact .inr (.inl q)
  ·by_cases hz:z=y
   ·subst hz;exact .inr (.inr (aD _ lv Y ho h3))
   ·exact .inr (.inr (aD z lz ((k5 hz).symm.trans H) M h3))
end
noncomputable def uN:Bt->Value
 |.len=>.builtin "len"
 |.range=>.type "range"
 |.sorted=>.builtin "sorted"
 |.tuple=>.type "tuple"
 |.dict=>.type "dict"
 |.all=>.builtin "all"
 |.max=>.builtin "max"
 |.min=>.builtin "min"
 |.sum=>.builtin "sum"
 |.int=>.type "int"
 |.str=>.type "str"
noncomputable def GR (W:Wd)(u:Value):GV->Prop
 |.const v=>VR W.w ⟨W.eF,[]⟩ v u
 |.fn i=>u=.ref (W.eI i)
 |.cls c=>u=.ref (W.eE c)
 |.blt b=>u=uN b
structure Tp (W:Wd):Prop where
 glob:∃mg mb,(∀h:Heap,(∀b o,W.eF b=some o->h.get? b=some o)->h.Ns mainGlobals mg/\h.Ns builtinsNs mb)/\∀x g,ai x=some g->∃u,GR W u g/\(mg x=some u\/mg x=none/\mb x=some u)
 size:∀h:Heap,(∀b o,W.eF b=some o->h.get? b=some o)->3<h.objs.size
 booked:∀h:Heap,(∀b o,W.eF b=some o->h.get? b=some o)->NoneBooked h
section
variable{W:Wd} {n:Nat}
def cZ (W:Wd)(n:Nat)(e:Expr)(x:X)(lv:LV)(x':X):Prop:=∀(c:Cx W n) k,Inv c x k->WP c (eval e c.env) (λu k'=>aL c x k x' k'/\Got W k.top k' lv u) k
def qd (W:Wd)(n:Nat)(e:Expr)(x:X)(v:V)(x':X):Prop:=∀(c:Cx W n) k,Inv c x k->WP c (eval e c.env) (λu k'=>aL c x k x' k'/\VR W.w k'.g v u) k
def vC (W:Wd)(n:Nat)(e:Expr)(x:X)(lv:LV)(x':X):Prop:=∀(c:Cx W n) k,Inv c x k->WP c (eval e c.env) (λu k'=>aL c x k x' k'/\lH c k' lv u) k
def CA (W:Wd)(n:Nat)(S:List Expr)(x:X)(T:List V)(x':X):Prop:=∀(c:Cx W n)(pos:Pos) k,Inv c x k->WP c (spliced (backTo pos (starEach S c.env))) (λus k'=>aL c x k x' k'/\aO W.w k'.g T us) k
def bM (W:Wd)(n:Nat)(f:bp):Prop:=∀{e:Expr}{x:X}{Z:LV->X->Kt}{r:LV×St},f e x Z=some r->∃lv x',Z lv x'=some r/\cZ W n e x lv x'
structure eG (f:bp):Prop where
 star:∀y p x Z,f (.Starred y p) x Z=none
 set:∀y j p x Z,f (.Set y j p) x Z=none
variable{c:Cx W n} {e:Expr} {x x' aI:X} {k k' aC:az} {lv:LV} {v:V}
def cZ.use (h:cZ W n e x lv x')(a:aL c aI aC x k):WP c (eval e c.env) (λu k'=>aL c aI aC x' k'/\k.g.Le k'.g/\Got W aC.top k' lv u) k:=(h c k a.inv).mono λ_ _ q=>bx (a.trans q.1) q.1.go.le (q.2.weak a.go.size)
def qd.use (h:qd W n e x v x')(a:aL c aI aC x k):WP c (eval e c.env) (λu k'=>aL c aI aC x' k'/\k.g.Le k'.g/\VR W.w k'.g v u) k:=(h c k a.inv).mono λ_ _ q=>bx (a.trans q.1) q.1.go.le q.2
def CA.use {S:List Expr}{T:List V}{pos:Pos}(h:CA W n S x T x')(a:aL c aI aC x k):WP c (spliced (backTo pos (starEach S c.env))) (λus k'=>aL c aI aC x' k'/\(aL c x k x' k')/\aO W.w k'.g T us) k:=(h c pos k a.inv).mono λ_ _ q=>bx (a.trans q.1) q.1 q.2
def aL.leaf (p:Inv c aI aC)(a:aL c aI aC x k)(l:Lf k k'){u:Value}(h:vz W k k' lv u):aL c aI aC x k'/\Got W aC.top k' lv u:=⟨a.lf l,.new a.inv l a.go.size h⟩
def aL.tok (a:aL c aI aC x k){u:Value}(t:Nat)(r:VR W.w k.g v u)(ht:k.s.toks<=t):aL c aI aC x (k.tok t)/\Got W aC.top (k.tok t) (.val v) u:=⟨a.lf (a.inv.tok t ht),.val r⟩
variable{f:bp} {Z:V->X->Kt} {r:LV×St}
def cZ.taken (E:cZ W n e x lv x')(hv:lv.frozen=some v):qd W n e x v x':=λc k p=>wpAny_mono (E c k p) (λu s bu=>c9 bu λg l q=>by refine bW (q.1.taken p q.2 hv) λg' a _ r=>?_;exact (ax g' l a r)) λ_ _ x=>x
def dD (F:bM W n f)(h:cB f e x Z=some r):∃v x',Z v x'=some r/\qd W n e x v x':=by exact bc λbu=>aG (F  h) λlv x' h E=>aH h λv hv h=>bu (ax v x' h (E.taken hv))
def LO {m:Str}(h:ry x e=some m):(∃p,e=.Name m p)/\iN (x.sc.lookup m)=true:=by
 delta ry at h;generalize hn:nameOf e=z_;induction z_ with
 |none=>replace h:=hn▸h;exact aF h
 |some y=>
  replace h:=hn▸h;have h:(cond (iN (x.sc.lookup y)) (some y) none)=some m:=h;generalize hv:iN (x.sc.lookup y)=z_;induction z_ with
  |false=>replace h:=hv▸h;exact aF h
  |true=>
   replace h:=hv▸h;obtain rfl:=oj h;refine ⟨?_,hv⟩
   cases e<;>first|(obtain rfl:=oj hn;exact ⟨_,rfl⟩)|exact aF hn
def uO (F:bM W n f){Z:LV->X->Kt}(h:kF f e x Z=some r):∃lv x',Z lv x'=some r/\vC W n e x lv x':=by
 delta kF at h;generalize hv:ry x e=z_;induction z_ with
 |none=>replace h:=hv▸h;exact aG (F  h) λlv x' h E=>ax lv x' h (λc k p=>(E c k p).mono λ_ _ q=>⟨q.1,q.2.Cv p⟩)
 |some m=>rw [hv] at h;refine bc λCB=>?_;obtain ⟨⟨q,rfl⟩,hm⟩:=LO hv;refine jS h λlv iG H M h=>CB (ax iG x h (λc k p=>?_));obtain ⟨rfl,u,l,ld⟩:=p.fr.load hm H M;exact wpAny_Name (ld ⟨k.g,k.loc,.refl p,k.loc m,l,λho=>⟨(p.fr.gX m _ H ho).1,(p.fr.gX m _ H ho).2.1⟩⟩) (wI p.fr hm c.fs.iY)
def MU (aK:eG f)(h:cB f e x Z=some r):∀y p,e≠.Starred y p:=by rintro y p rfl;exact aF ((aK.star ..).symm.trans h)
def v_ {env:Env}{S:List Expr}(h:∀y p,e≠.Starred y p):starEach (e::S) env=(false,eval e env)::starEach S env:=by cases e<;>first|rfl|exact absurd rfl (h _ _)
def mx (F:bM W n f)(aK:eG f):∀{S:List Expr}{x:X}{Z:List V->X->Kt},iv f S x Z=some r->∃T x',Z T x'=some r/\CA W n S x T x'/\∀env pos,(backTo pos (starEach S env)).any (·.1)=false:=by
 intro z_
 induction z_ with
 |nil=>intro x Z h;exact aD ([]) x h (λc pos k p=>wpAny_items_nil (ax k.g k.loc (.refl p) .nil)) (λ_ _=>rfl)
 |cons e S ak=>
  intro x Z h;have ns:=MU aK h;refine bc λuP=>aG (dD  F h) λv x₁ h E=>aw (ak h) λT bF h Es hp=>uP (aD (v::T) bF h (λc pos k p=>?_) (λenv pos=>?_))
  ·exact wpAny_items_cons ((E c k p).use λu k₁ q=>(Es.use q.1).use λus k₂ q'=>ax k₂.g k₂.loc q'.1 (.cons (q.2.mono q'.2.1.go.le) q'.2.2)) (v_ ns)
  ·refine (v_ ns).symm▸?_;exact hp env pos
def Tp.load (au:Tp W)(p:Inv c x k){m:Str}{g:GV}(h:sj x.sc m=some g):
  (∃u,GR W u g/\∀{Q:Value->Shared->Prop},Q u k.s->wpAny (Md W.w) c.A (loadName c.env m) Q aA k.s)/\(m==("__debug__":Str))=false:=by
 have hk:x.sc.lookup m=some .globalImplicit/\ai m=some g:=by
  delta sj at h;generalize q:(x.sc.lookup m==some NameKind.globalImplicit)=z_;induction z_ with
  |true=>replace h:=q▸h;exact ⟨bE q,h⟩
  |false=>replace h:=q▸h;exact aF h
 replace hk:=p.fr.sc▸hk;refine aG au.glob λmg mb t1 t2=>?_;obtain ⟨g1,g2⟩:=t1 k.h p.g_;refine aq (t2 m g hk.2) λu gr z=>⟨(af u gr (λq=>?_)),?_⟩
 ·rw [loadName_read c.fs.kind (c.fs.gk m hk.1)];delta loadGlobal;refine c.fs.glob.symm▸c.fs.blt.symm▸(wpAny_bind (wpAny_nsGet g1 ?_));rcases z with z|⟨z1,z2⟩
  ·refine z.symm▸?_;exact wpAny_pure q
  ·refine z1.symm▸(wpAny_bind (wpAny_nsGet g2 ?_));refine z2.symm▸?_;exact wpAny_pure q
 ·rw [beq_eq_false_iff_ne];rintro rfl;have:=c.fs.iY;exact aF (this.symm.trans hk.1)
def MV {cc:Const}(h:mj cc=some v)(p:Inv c x k):WP c (constValue c.env cc) (λu k'=>aL c x k x k'/\Got W k.top k' (.val v) u) k:=by
 have t:=λt ht {v u} (r:VR W.w k.g v u)=>(aL.refl p).tok t r ht
 cases cc<;>cases h
 ·exact λ_ _ _=>dB _ _ (t k.s.toks (nR _) .none)
 ·exact λ_ _ _=>dB _ _ (t k.s.toks (nR _) (.bool _))
 ·exact λ_ _ _=>dB _ _ (t (k.s.toks+1) (lS _) (.int _ _))
 ·exact λ_ _ _=>dB _ _ (t (k.s.toks+1) (lS _) (.str _ _))
def Ot (au:Tp W){m:Str}{q:Pos}{Z:LV->X->Kt}(h:xo m x Z=some r):∃lv x',Z lv x'=some r/\cZ W n (.Name m q) x lv x':=by
 delta xo at h;generalize hv:iN (x.sc.lookup m)=z_;induction z_ with
 |true=>
  rw [hv] at h;obtain ⟨lv,H,h⟩:=oB h;obtain ⟨v,M,h⟩:=oB h;refine ⟨.val v,_,h,λc k p=>?_⟩;obtain ⟨_,u,l,ld⟩:=p.fr.load hv H (by cases lv<;>first|rfl|(first|exact aF M|exact lx M|exact aS M|exact d7 M|exact XY M rfl|exact nV M rfl|exact mP M|exact og M|exact False.elim M):lv.set=some lv);refine wpAny_Name (ld ?_) (wI p.fr hv c.fs.iY);generalize ho:lv.own=z_;induction z_ with
  |true=>exact aq (p.Qc H ho M l) λg a r=>ax g k.loc a (.val r)
  |false=>
   induction lv with
   |unset=>exact aF M
   |val v'=>(injection M with q_;subst q_);refine aq l λ_ e r=>?_;obtain rfl:=oj e;exact ax k.g k.loc (.refl p) (.val r)
   |ml _=>exact d7 ho
   |md _=>exact d7 ho
 |false=>
  rw [hv] at h;obtain ⟨g,H,h⟩:=oB h;obtain ⟨v,M,h⟩:=oB h;refine ⟨.val v,x,h,λc k p=>ay (au.load p H) λTx hd=>aq Tx λu gr ld=>?_⟩
  induction g with
  |const v'=>(injection M with q_;subst q_);exact wpAny_Name (ld ⟨k.g,k.loc,.refl p,.val (VR.mono gr ⟨p.top,List.nil_prefix⟩)⟩) hd
  |fn _=>exact aF M
  |cls _=>exact aF M
  |blt _=>exact aF M
end
def qA {i:Int}:bQ i=true↔-4611686018427387903<=i/\i<=4611686018427387903:=by delta bQ;rw [Bool.and_eq_true,decide_eq_true_iff,decide_eq_true_iff]
set_option tactic.hygienic true in
def LQ {i:Int}(h:bQ i=true):Builtin.Int.intBits i<=64:=by
 rw [qA] at h;delta Builtin.Int.intBits;split
 ·exact lZ _
 ·rename_i q;have h0:i.natAbs≠0:=λz=>q (bI (Int.natAbs_eq_zero.mp z));have:=(Nat.log2_lt h0).mpr (S3 h);exact lB ‹_›
def fW {v:V}{i:Int}(h:c8 v=some i):v=.int i:=by cases v<;>cases h;rfl
def wg {v:V}{i:Str}(h:strOf v=some i):v=.str i:=by cases v<;>cases h;rfl
def Ep {v:V}{i:List V}(h:Bm v=some i):v=.tup i:=by cases v<;>cases h;rfl
def wj {v:V}{i:List V}(h:tZ v=some i):v=.list i:=by cases v<;>cases h;rfl
def zo {v:V}{i:List (V×V)}(h:xF v=some i):v=.dict i:=by cases v<;>cases h;rfl
def tA {a b:V}{f:Int->Int->Option Int}{lv:LV}(h:i2 a b f=some lv):∃x y z,a=.int x/\b=.int y/\f x y=some z/\lv=.val (.int z):=by exact bc λbu=>Cq h λx y z H M h3 h=>bu (fB x y z (fW H) (fW M) h3 ((oj h).symm))
def j8:sizeLine=16777216:=rfl
section
variable{W:Wd} {A:Around} {k:az}
def KS {l:Addr}{bA:Array Value}{j:Nat}{x:Int}{u:Tok}{s:Shared}{Q:Value->Shared->Prop}
  (hl:s.heap.get? l=some {cls:=.type "list",dict:=none,data:=.seq bA j,slots:=#[]})
  (X0:-(2^63:Int)<=x) (X1:x<2^63) (hsz:bA.size*x.toNat<=2^24)
  (h:Q (.ref s.heap.objs.size) {s with heap:=s.heap.push {cls:=.type "list",data:=.seq (List.foldl (λx1 x2=>x1++x2) #[] (List.replicate (if bA.isEmpty=true then 0 else x.toNat) bA))}}):
  wpAny (Md W.w) A (binaryOp .Mult (.ref l) (.int x u)) Q aA s:=
 wpAny_binaryOp_repeat_ref (U:="int") (by decide) ⟨_,hl,rfl⟩ (λs'=>typeIs_int s' x u) noFill_list_mul F.fills_int_mul F.slot_int_rmul repeat_list F.slot_int_index.lookup
  (call_meets F.slot_int_rmul (typeIs_int s x u) F.entry_int_rmul (F.args_int_rmul_2 _ _) (int___rmul___int_list x u l bA j)
   ⟨hl,rfl,⟨_,hl,rfl⟩,call_meets F.slot_list_mul ⟨_,hl,rfl⟩ F.entry_list_mul (F.args_list_mul_2 _ _)
    (AutoListH.list___mul___list_int_3 l bA j x u (by delta Builtin.List.listFitsIndex;rw [dT X0,dT X1];exact gi) (gW (nT hsz (nl rfl))) (λq=>absurd (cS q) (gW hsz)))
    ⟨hl,h⟩⟩)
def aO.flat {w:World}{g:Gh}{xs:List V}{T:List Value}(x:aO w g xs T):∀n,aO w g (List.replicate n xs).flatten (List.replicate n T).flatten:=by
 intro bz
 induction bz with
 |zero=>exact .nil
 |succ aJ ak=>rw [List.replicate_succ,List.flatten_cons,List.replicate_succ,List.flatten_cons];exact x.append (ak)
def MW:∀n (acc bA:Array Value),(List.foldl (λx1 x2=>x1++x2) acc (List.replicate n bA)).toList=acc.toList++(List.replicate n bA.toList).flatten:=by
 intro bz
 induction bz with
 |zero=>intro aJ aU;rw [List.replicate_zero,List.replicate_zero];exact (List.append_nil _).symm
 |succ aW ak=>intro aJ aU;rw [List.replicate_succ,List.foldl_cons,ak,List.replicate_succ,List.flatten_cons,Array.toList_append,List.append_assoc]
abbrev n3 (W:Wd)(k:az)(lv:LV)(u:Value)(k':az):Prop:=Lf k k'/\vz W k k' lv u
def ee (W:Wd)(A:Around)(k:az)(t:Sem Value)(lv:LV):Prop:=wpAny (Md W.w) A t (λu s=>∃g,n3 W k lv u ⟨g,k.loc,s⟩) aA k.s
def mz (ag:k.g.In k.h){i:Int}:∃g,n3 W k (.val (.int i)) (.int i k.s.toks) ⟨g,k.loc,{k.s with toks:=k.s.toks+1}⟩:=(af k.g (.dZ ag (.tok (h:=(lS _)) _)) (.val (.int _ _)))
def xM (ag:k.g.In k.h){s:Shared}(e:Ext k.s s){a:Addr}{T:List Value}{xs:List V}(ha:k.top<=a)(ho:s.heap.get? a=some {cls:=.type "tuple",data:=.seq T.toArray})(r:aO W.w k.g xs T):∃g,n3 W k (.val (.tup xs)) (.ref a) ⟨g,k.loc,s⟩:=⟨_,.new ag e ha ho,.val (.tup Gh.nO rfl rfl (r.mono (Gh.k0 (ag.none ha))))⟩
def xN (ag:k.g.In k.h){s:Shared}(e:Ext k.s s){a:Addr}{T:Array Value}{m:Nat}{xs:List V}(ha:k.top<=a)(ho:s.heap.get? a=some (lobj T m))(r:aO W.w k.g xs T.toList):∃g,n3 W k (.ml xs) (.ref a) ⟨g,k.loc,s⟩:=⟨k.g,.dZ ag e,a,⟨rfl,T,m,ho,r⟩,λ_=>⟨ha,ag.none ha⟩⟩
def Ou {a b:V}{lv:LV}{u v:Value}(ag:k.g.In k.h)(ha:VR W.w k.g a u)(hb:VR W.w k.g b v)(h:IQ a b=some lv):ee W A k (binaryOp .Add u v) lv:=by
 have k6:i2 a b (λx y=>some (x+y))=some lv->ee W A k (binaryOp .Add u v) lv:=λh=>by(refine eP (tA h) λx y z bu cx h3 cG=>?_;subst bu;subst cx;subst cG);obtain rfl:=oj h3;obtain ⟨_,rfl⟩:=ha.da;obtain ⟨_,rfl⟩:=hb.da;exact PyProof.Rows.add_int (mz ag)
 cases a with
 |tup xs=>
  refine bc λuK=>fS h λys H hf M=>?_;(injection M with q_;subst q_);obtain rfl:=Ep H;have hf:=fit_le hf;obtain ⟨a1,⟨c1,d1,Zd,s1⟩,T,n1,rfl,i1,i2,i3,r1⟩:=ha.qY;obtain ⟨a2,⟨c2,d2,Ze,s2⟩,us,n2,rfl,j1,j2,j3,r2⟩:=hb.qY;subst i2;subst i3;subst j2;subst j3;refine uK ?_;by_cases e1:T.isEmpty=true
  ·refine concat_meets ((af _ (ag _ _ i1) rfl):k.s.TypeIs (.ref a1) "tuple") ((af _ (ag _ _ j1) rfl):k.s.TypeIs (.ref a2) "tuple") noFill_tuple_add seq_tuple_add PySem.F.slot_tuple_add PySem.F.entry_tuple_add (PySem.F.args_tuple_add_2 _ _) (tuple_addW0 a1 a2 T us n1 n2 d1 d2 s1 s2 e1) ⟨ag _ _ i1,ag _ _ j1,k.g,.dZ ag .refl,.val ?_⟩;rw [show T.toList=[] from by simpa using e1] at r1;refine r1.AO.symm▸?_;exact hb
  ·by_cases e2:us.isEmpty=true
   ·refine concat_meets (⟨_,ag _ _ i1,rfl⟩) ((af _ (ag _ _ j1) rfl):k.s.TypeIs (.ref a2) "tuple") noFill_tuple_add seq_tuple_add PySem.F.slot_tuple_add PySem.F.entry_tuple_add (PySem.F.args_tuple_add_2 _ _) (tuple_addW1 a1 a2 T us n1 n2 d1 d2 s1 s2 e1 e2) ⟨ag _ _ i1,ag _ _ j1,k.g,.dZ ag .refl,.val ?_⟩;rw [show us.toList=[] from by simpa using e2] at r2;rw [r2.AO,List.append_nil];exact ha
   ·refine concat_meets (⟨_,ag _ _ i1,rfl⟩) ((af _ (ag _ _ j1) rfl):k.s.TypeIs (.ref a2) "tuple") noFill_tuple_add seq_tuple_add PySem.F.slot_tuple_add PySem.F.entry_tuple_add (PySem.F.args_tuple_add_2 _ _) (tuple_addW2 a1 a2 T us n1 n2 d1 d2 s1 s2 e1 e2 (by refine j8.symm▸r1.eD▸r2.eD▸?_;exact nT hf (nl rfl))) ⟨ag _ _ i1,ag _ _ j1,?_⟩
    refine xM ag (.push _) (nR _) ?_ (r1.append r2);refine Array.toList_append▸?_;exact eR rfl
 |list xs=>
  refine bc λTz=>fS h λys H hf M=>?_;(injection M with q_;subst q_);obtain rfl:=wj H;have hf:=fit_le hf;obtain ⟨a1,rfl,T,n1,e1,r1⟩:=ha.kU ag;obtain ⟨a2,rfl,us,n2,e2,r2⟩:=hb.kU ag;refine Tz ?_;exact concat_meets (af _ e1 rfl) (af _ e2 rfl) noFill_list_add seq_list_add PySem.F.slot_list_add PySem.F.entry_list_add (PySem.F.args_list_add_2 _ _) (list_addW a1 a2 T us n1 n2 none none #[] #[] (by refine j8.symm▸r1.eD▸r2.eD▸?_;exact nT hf (nl rfl))) ⟨e1,e2,
   xN ag (.push _) (nR _) (eR rfl) (by refine Array.toList_append.symm▸?_;exact r1.append r2)⟩
 |_=>exact k6 h
set_option tactic.hygienic true in
def Ov {a b:V}{lv:LV}{u v:Value}(ag:k.g.In k.h)(ha:VR W.w k.g a u)(hb:VR W.w k.g b v)(h:IS a b=some lv):ee W A k (binaryOp .Mult u v) lv:=by
 have k6:i2 a b (λx y=>guard (bQ x&&bQ y) (some (x*y)))=some lv->ee W A k (binaryOp .Mult u v) lv:=λh=>by(refine eP (tA h) λx y z TA TB h3 TC=>?_;subst TA;subst TB;subst TC);refine ay (bK h3) λq h3=>?_;obtain rfl:=oj h3;(refine aM ha.da λ_ TF=>?_;subst TF);obtain ⟨_,rfl⟩:=hb.da;exact PyProof.Rows.mul_int (mz ag) (.of_left (LQ (iD q).1))
 cases a with
 |list xs=>
  refine bc λTG=>bc λTH=>fS h λy H q M=>?_;obtain rfl:=oj M;obtain rfl:=fW H;rw [Bool.and_eq_true,Bool.and_eq_true,decide_eq_true_iff,decide_eq_true_iff] at q;obtain ⟨⟨q1,q2⟩,q3⟩:=q;have q3:=fit_le q3;obtain ⟨a1,rfl,T,n1,e1,r1⟩:=ha.kU ag;(refine aM hb.da λ_ TJ=>?_;subst TJ);refine TH (TG ?_);have l1:=r1.eD;have hle:T.size*y.toNat<=T.size*64:=Nat.mul_le_mul_left _ (Int.toNat_le.mpr (Int.le_of_lt q2));refine KS e1 (Int.le_trans (by decide) q1) (Int.lt_trans q2 (by decide)) (nT hle (nT (l1▸q3) (nl rfl))) (xN ag (.push _) (nR _) (eR rfl) ?_);rw [MW];split
  ·rename_i z;rw [show T.toList=[] from by simpa using z] at r1;rw [r1.AO];rw [show(List.replicate y.toNat ([])).flatten=[] from by simp];exact .nil
  ·exact r1.flat y.toNat
 |_=>exact k6 h
def LS {op:Operator}{a b:V}{lv:LV}{u v:Value}(ag:k.g.In k.h)(ha:VR W.w k.g a u)(hb:VR W.w k.g b v)(h:fy op a b=some lv):ee W A k (binaryOp op u v) lv:=by
 have k6:∀{f:Int->Int->Option Int},i2 a b f=some lv->(∀{x y z:Int}{t t':Tok},f x y=some z->ee W A k (binaryOp op (.int x t) (.int y t')) (.val (.int z)))->ee W A k (binaryOp op u v) lv:=λh q=>by(refine eP (tA h) λx y z TK TL h3 TM=>?_;subst TK;subst TL;subst TM);obtain ⟨_,rfl⟩:=ha.da;obtain ⟨_,rfl⟩:=hb.da;exact q h3
 induction op with
 |Add=>exact Ou ag ha hb h
 |Mult=>exact Ov ag ha hb h
 |Sub=>exact k6 h λe=>by obtain rfl:=oj e;exact PyProof.Rows.sub_int (mz ag)
 |BitAnd=>exact k6 h λe=>by obtain rfl:=oj e;exact PyProof.Rows.and_int (mz ag)
 |BitOr=>exact k6 h λe=>by obtain rfl:=oj e;exact PyProof.Rows.or_int (mz ag)
 |FloorDiv=>refine k6 h λe=>ay (bK e) λq e=>gK q λq1 q2=>?_;obtain rfl:=oj e;exact PyProof.Rows.floordiv_int (by simpa using q1) (mz ag) (.inl (PyProof.noPylong_small (cS q2)))
 |Mod=>refine k6 h λe=>ay (bK e) λq e=>?_;obtain rfl:=oj e;exact PyProof.Rows.mod_int' (by simpa using q) (mz ag)
 |Pow=>refine k6 h λe=>ay (bK e) λq e2=>?_;(injection e2 with q_;subst q_);clear e;rw [Bool.and_eq_true,Bool.and_eq_true,beq_iff_eq,decide_eq_true_iff,decide_eq_true_iff] at q;obtain ⟨⟨rfl,q1⟩,q2⟩:=q;exact PyProof.Rows.pow_int q1 (by refine (show Builtin.Int.intBits 2=2 by decide+kernel).symm▸?_;lia) (mz ag)
 |_=>exact bD h
end
section
variable{W:Wd} {A:Around} {k:az} {Q:Value->Shared->Prop}
def LR.fu {g:Gh}{h:Heap}{u:Value}{b:Addr}{v:V}(x:LR W g h (some u) b (.val v)):VR W.w g v u:=by refine aq x λ_ e r=>?_;obtain rfl:=oj e;exact r
def LU (hu:A.units+250<cLine)(ag:k.g.In k.h){a:V}{xs:List V}{u c:Value}{r:Bool}(ha:VR W.w k.g a u)(h:nW a xs=some r)
  (hc:(∃l,c=.ref l/\fh W.w k.g k.h l xs)\/∃l T,c=.ref l/\IsTup k.h l T/\aO W.w k.g xs T.toList):
  (Q (.bool r) k.s->wpAny (Md W.w) A (compareOp .In u c) Q aA k.s)/\(Q (.bool (!r)) k.s->wpAny (Md W.w) A (compareOp .NotIn u c) Q aA k.s):=by
 refine jS h λd ds H M h=>?_;obtain rfl:=oj h;obtain ⟨⟨as,r1⟩,r2,r3⟩:=tN ag ha H;have key:∀{T:Array Value},aO W.w k.g xs T.toList->(∃bs,ReadsAll k.h T.toList ds bs)/\PyData.canLayAll0 ds=true/\A.units+1+min (PyData.depthAll ds) d.depth<cLine:=λz=>by obtain ⟨q1,q2,q3⟩:=Qa ag z M;refine bx q1 q2 ?_;have:min (PyData.depthAll ds) d.depth<=PyData.depthAll ds:=Nat.min_le_left _ _;rw [Nat.add_assoc];exact vw (a:=A.units) hu (nT (nA (nT (Nat.min_le_left _ _) q3) 1) (nl rfl))
 rcases hc with⟨l,rfl,T,n,hl,z⟩|⟨l,T,rfl,⟨o,ho,hc,n,hd⟩,z⟩
 ·exact ef (key z) λuQ q2 q3=>aM uQ λbs q1=>⟨SeqAt.in_list_reads (.list hl rfl rfl q1) r1 q2 r2 q3,SeqAt.notIn_list_reads (.list hl rfl rfl q1) r1 q2 r2 q3⟩
 ·exact ef (key z) λpI q2 q3=>aM pI λbs q1=>⟨SeqAt.in_tuple_reads (.tuple ho hc hd q1) r1 q2 r2 q3,SeqAt.notIn_tuple_reads (.tuple ho hc hd q1) r1 q2 r2 q3⟩
def EN (hu:A.units+250<cLine)(ag:k.g.In k.h){a:V}{b:LV}{u c:Value}{bb:Addr}{r:Bool}(ha:VR W.w k.g a u)(hb:LR W k.g k.h (some c) bb b)(h:isIn a b=some r):
  ((∀t,k.s.toks<=t->Q (.bool r) {k.s with toks:=t})->wpAny (Md W.w) A (compareOp .In u c) Q aA k.s)/\((∀t,k.s.toks<=t->Q (.bool (!r)) {k.s with toks:=t})->wpAny (Md W.w) A (compareOp .NotIn u c) Q aA k.s):=by
 have seq:∀{xs:List V},nW a xs=some r->((∃l,c=.ref l/\fh W.w k.g k.h l xs)\/∃l T,c=.ref l/\IsTup k.h l T/\aO W.w k.g xs T.toList)->
   ((∀t,k.s.toks<=t->Q (.bool r) {k.s with toks:=t})->wpAny (Md W.w) A (compareOp .In u c) Q aA k.s)/\((∀t,k.s.toks<=t->Q (.bool (!r)) {k.s with toks:=t})->wpAny (Md W.w) A (compareOp .NotIn u c) Q aA k.s):=λh hc=>by
  exact ay (LU (Q:=Q) hu ag ha h hc) λq1 q2=>⟨λq=>q1 (q _ (nR _)),λq=>q2 (q _ (nR _))⟩
 have JS:∀{S:List (V×V)},(dh S a).map Option.isSome=some r->(∃l,c=.ref l/\DR W.w k.g k.h l S)->
   ((∀t,k.s.toks<=t->Q (.bool r) {k.s with toks:=t})->wpAny (Md W.w) A (compareOp .In u c) Q aA k.s)/\((∀t,k.s.toks<=t->Q (.bool (!r)) {k.s with toks:=t})->wpAny (Md W.w) A (compareOp .NotIn u c) Q aA k.s):=λh hc=>by
  (refine aq hc λl pM dr=>?_;subst pM);(refine lu h λr' hr uR=>?_;subst uR);(refine bW (zv hr) λd H M CC=>?_;subst CC);have R:=dr.road ag hu ha H M;exact ⟨R.isIn,R.BB⟩
 induction b with
 |unset=>exact aF h
 |ml xs=>exact seq h (.inl ⟨bb,oj hb.1,hb.2⟩)
 |md S=>exact JS h ⟨bb,oj hb.1,hb.2⟩
 |val v=>
  cases v with
  |tup xs=>exact seq h (.inr (hb.fu.qZ ag))
  |list xs=>exact seq h (.inl (hb.fu.kU ag))
  |dict S=>exact JS h (hb.fu.qN ag)
  |_=>exact bD h
def EO (hu:A.units+250<cLine)(ag:k.g.In k.h){a b:V}{u v:Value}{r:Bool}(ha:VR W.w k.g a u)(hb:VR W.w k.g b v)(h:kj a b=some r):
  (Q (.bool r) k.s->wpAny (Md W.w) A (compareOp .Eq u v) Q aA k.s)/\(Q (.bool (!r)) k.s->wpAny (Md W.w) A (compareOp .NotEq u v) Q aA k.s):=by
 refine bc λCz=>jS h λd e H M h=>?_;obtain rfl:=oj h;obtain ⟨⟨as,r1⟩,r2,r3⟩:=tN ag ha H;obtain ⟨⟨bs,q1⟩,q2,q3⟩:=tN ag hb M;refine Cz ?_;have hr:A.units+min d.depth e.depth<cLine:=by have:min d.depth e.depth<=d.depth:=Nat.min_le_left _ _;exact vw (a:=A.units) hu (nT (nT (Nat.min_le_left _ _) r3) (nl rfl))
 exact ⟨SeqAt.compareEq_reads r1 q1 r2 q2 hr,SeqAt.compareNe_reads r1 q1 r2 q2 hr⟩
def VR.isNone {w:World}{g:Gh}{v:V}{u:Value}(x:VR w g v u):(u==Value.none)=v.isNone:=by cases x<;>rfl
def Ea {v:V}(h:v.isNone=true):v=.none:=by cases v<;>first|rfl|exact aS h
def MX {a b:V}{f:Int->Int->Bool}{g:List Nat->List Nat->Option Bool}{r:Bool}(h:rP a b f g=some r):
  (∃x y,a=.int x/\b=.int y/\f x y=r)\/∃x y,a=.str x/\b=.str y/\g x.cps.toList y.cps.toList=some r:=by
 cases a with
 |int x=>exact aH h λy H h=>.inl (aD x y rfl (fW H) (oj h))
 |str x=>exact aH h λy H h=>.inr (aD x y rfl (wg H) h)
 |_=>exact bD h
def Er (hu:A.units+250<cLine)(ag:k.g.In k.h){op:CmpOp}{a:V}{b:LV}{u c:Value}{bb:Addr}{r:Bool}(ha:VR W.w k.g a u)(hb:LR W k.g k.h (some c) bb b)(h:aN op a b=some r)(hq:∀t,k.s.toks<=t->Q (.bool r) {k.s with toks:=t}):
  wpAny (Md W.w) A (compareOp op u c) Q aA k.s:=by
 have pl:∀{f:V->Option Bool},b.plain.bind f=some r->(∀v,VR W.w k.g v c->f v=some r->wpAny (Md W.w) A (compareOp op u c) Q aA k.s)->wpAny (Md W.w) A (compareOp op u c) Q aA k.s:=λh q=>by
  refine aH h λv H h=>?_
  induction b with
  |val v'=>cases H;exact q v hb.fu h
  |_=>exact bD H
 have ord:∀{f:Int->Int->Bool}{g:List Nat->List Nat->Option Bool},(b.plain.bind λb=>rP a b f g)=some r->(∀{x y:Int}{t t':Tok},f x y=r->wpAny (Md W.w) A (compareOp op (.int x t) (.int y t')) Q aA k.s)->
   (∀{x y:Str}{t t':Tok},g x.cps.toList y.cps.toList=some r->wpAny (Md W.w) A (compareOp op (.str x t) (.str y t')) Q aA k.s)->wpAny (Md W.w) A (compareOp op u c) Q aA k.s:=λh q1 q2=>pl h λv hv h=>by
  rcases MX h with⟨x,y,rfl,rfl,e⟩|⟨x,y,rfl,rfl,e⟩
  ·obtain ⟨_,rfl⟩:=ha.da;obtain ⟨_,rfl⟩:=hv.da;exact q1 e
  ·obtain ⟨_,rfl⟩:=ha.j7;obtain ⟨_,rfl⟩:=hv.j7;exact q2 e
 induction op with
 |Eq=>exact pl h λv hv h=>(EO hu ag ha hv h).1 (hq _ (nR _))
 |NotEq=>exact pl h λv hv h=>by(refine lu h λt ht ud=>?_;subst ud);exact (EO hu ag ha hv ht).2 (hq _ (nR _))
 |Lt=>exact ord h (λe=>PyProof.Rows.lt_int (e▸hq _ (nR _))) λe=>P.lt_str (oj e▸hq _ (nR _))
 |LtE=>exact ord h (λe=>PyProof.Rows.le_int (e▸hq _ (nR _))) λe=>P.le_str (oj e▸hq _ (nR _))
 |Gt=>exact ord h (λe=>PyProof.Rows.gt_int (e▸hq _ (nR _))) λe=>P.gt_str (oj e▸hq _ (nR _))
 |GtE=>exact ord h (λe=>PyProof.Rows.ge_int (e▸hq _ (nR _))) λe=>aF e
 |In=>exact (EN hu ag ha hb h).1 hq
 |NotIn=>(refine lu h λt ht ue=>?_;subst ue);exact (EN hu ag ha hb ht).2 hq
 |Is=>
  refine pl h λv hv h=>?_;obtain ⟨q,h⟩:=bK h
  cases Ea q
  cases hv.none_of
  refine is_none (ha.isNone.symm▸?_);obtain rfl:=oj h;exact hq _ (nR _)
 |IsNot=>
  refine pl h λv hv h=>?_;obtain ⟨q,h⟩:=bK h
  cases Ea q
  cases hv.none_of
  refine isNot_none (ha.isNone.symm▸?_);obtain rfl:=oj h;exact hq _ (nR _)
def zp (hu:A.units+250<cLine)(ag:k.g.In k.h){a:V}{u:Value}{r:Bool}(ha:VR W.w k.g a u)(h:k8 a=some r){Q:Bool->Shared->Prop}(hq:∀t,k.s.toks<=t->Q r {k.s with toks:=t}):
  wpAny (Md W.w) A (truthy u) Q aA k.s:=by
 have len:∀{xs:List V}{T:Array Value},aO W.w k.g xs T.toList->xs.isEmpty=T.isEmpty:=λr=>by rw [Bool.eq_iff_iff,List.isEmpty_iff_length_eq_zero,Array.isEmpty_iff_size_eq_zero,r.eD]
 cases a with
 |none=>obtain rfl:=oj h;cases ha.none_of;exact PyProof.Rows.truthy_none (hq _ (nR _))
 |bool b=>(injection h with q_;subst q_);cases ha.Ge;exact wpAny_truthy_bool (hq _ (nR _))
 |int i=>(injection h with q_;subst q_);obtain ⟨_,rfl⟩:=ha.da;exact PyProof.Rows.truthy_int (hq _ (nR _))
 |str x=>
  refine ay (bK h) λq h=>?_;obtain rfl:=oj h;obtain ⟨_,rfl⟩:=ha.j7;have q:=fit_le q;refine P.truthy_str (Int.not_le.mpr (xD q)) ?_;have:((x.length:Int) !=0)=!x.cps.isEmpty:=by rw [Bool.eq_iff_iff];have:x.length=x.cps.size:=rfl;simp [this,Array.isEmpty]
  exact this.symm▸(hq _ (lB (lS _)))
 |tup xs=>refine bc λTN=>ay (bK h) λq h=>?_;obtain rfl:=oj h;(refine aw (ha.qZ ag) λl T TO q1 q2=>?_;subst TO);refine TN ?_;refine PyProof.Rows.truthy_tuple q1 (by refine q2.eD▸?_;exact xD (fit_le q)) ?_;exact (len q2)▸(hq _ (lB (lS _)))
 |list xs=>refine bc λBH=>ay (bK h) λq h=>?_;obtain rfl:=oj h;obtain ⟨l,rfl,T,n,q1,q2⟩:=ha.kU ag;refine BH ?_;refine wpAny_truthy_list ⟨_,q1,rfl,_,rfl⟩ (by refine q2.eD▸?_;exact xD (fit_le q)) ?_;exact (len q2)▸(hq _ (lB (lS _)))
 |_=>exact bD h
end
noncomputable def jK:List String:=["tuple","list","str","dict"]
def LW {au:String}(h:au∈jK):∃id,typeLookup (.type au) "__getitem__"=pure (some (.builtin id)):=by
 simp only [jK,List.mem_cons,List.not_mem_nil,or_false] at h;rcases h with rfl|rfl|rfl|rfl
 ·exact ⟨_,slot_tuple_getitem.lookup⟩
 ·exact ⟨_,PySem.F.slot_list_getitem.lookup⟩
 ·exact ⟨_,PySem.F.slot_str_getitem.lookup⟩
 ·exact ⟨_,PySem.slot_dict_getitem.lookup⟩
def Kx (nX:Expr)(o i:Value):∃l,subscripted nX false o i=operate l (getItem o i):=by
 cases nX with
 |Slice _ _ st _=>cases st<;>exact ⟨_,rfl⟩
 |_=>exact ⟨_,rfl⟩
section
variable{W:Wd} {A:Around} {s:Shared} {env:Env}
def Fp {x i:Expr}{pos:Pos}{Q:Value->Shared->Prop}
  (h:wpAny (Md W.w) A (eval x env) (λo s₁=>wpAny (Md W.w) A (eval i env) (λk bO=>(∃au,au∈jK/\bO.TypeIs o au)/\wpAny (Md W.w) A (getItem o k) Q aA bO) aA s₁) aA s):
  wpAny (Md W.w) A (eval (.Subscript x i pos) env) Q aA s:=by
 exact PyProof.Rows.Subscript_ (wpAny_mono h (λo s₁ gQ=>wpAny_mono gQ (λk bO bu=>ay bu λcx hq=>aq cx λau hT ht=>aM (LW hT) λid hl=>wpAny_bind ((getitemInPython_of_ne ht.not_modules).symm▸(wpAny_bind (wpAny_specialOf ht hl (wpAny_pure (wpAny_bind (aM (Kx i o k) λl e=>e.symm▸(wpAny_operating (wpAny_mono hq (λr cR oh=>wpAny_bind (wpAny_letTemporaryGo (wpAny_pure oh))) λ_ _ x=>x))))))))) λ_ _ x=>x) λ_ _ x=>x)
end
section
variable{W:Wd} {A:Around} {k:az} {Q:Value->Shared->Prop}
def Eb {xs:List V}{i:Int}{v:V}(h:xE xs i=some v):(xs.length<=1048576/\-(2^62)<=i/\i<=2^62)/\∃j:Nat,seqIndex? i xs.length=some j/\xs[j]?=some v/\(0<=i->j=i.toNat)/\(i<0->-(xs.length:Int)<=i/\j=(i+xs.length).toNat):=by
 refine ay (bK h) λq h=>?_;rw [Bool.and_eq_true,qA] at q;refine ⟨(bx (fit_le q.2) (x9 q.1.1) (IP q.1.2)),?_⟩;generalize hd:decide (0<=i)=z_;induction z_ with
 |true=>replace h:=hd▸h;have h0:=cS hd;have hl:=(dR h).1;refine mJ i.toNat ?_ h (λ_=>rfl) (λz=>absurd h0 (Int.not_le.mpr z));delta seqIndex?;rw [if_neg (JJ h0)];rw [if_pos (by rw [Bool.and_eq_true,decide_eq_true_iff,decide_eq_true_iff];exact ⟨‹_›,JH ‹_› ‹_›⟩)]
 |false=>rw [hd] at h;refine ay (bK h) λH M=>?_;have hl:=(dR M).1;refine mJ ((i+xs.length).toNat) ?_ M (λz=>absurd z (of_decide_eq_false hd)) (λ_=>⟨(cS H),rfl⟩);delta seqIndex?;have n0:=Cm (of_decide_eq_false hd);rw [if_pos n0];rw [if_pos (by rw [Bool.and_eq_true,decide_eq_true_iff,decide_eq_true_iff];exact S2 (cS H) n0)]
def uS (W:Wd)(A:Around)(k:az)(c u:Value)(v:V):Prop:=(∃au,au∈jK/\k.s.TypeIs c au)/\wpAny (Md W.w) A (getItem c u) (λr s=>VR W.w k.g v r/\∃t,k.s.toks<=t/\s={k.s with toks:=t}) aA k.s
def Gi {a:Addr}{xs:List V}{i:V}{u:Value}{v:V}(l:fh W.w k.g k.h a xs)(hi:VR W.w k.g i u)(h:t8 xs i=some v):uS W A k (.ref a) u v:=by
 refine bc λpN=>aH h λj H h=>?_;obtain rfl:=fW H;(refine aM hi.da λt CD=>?_;subst CD);refine aG l λT n hl r=>?_;obtain ⟨⟨q1,q2,q3⟩,m,q4,q5,q6,q7⟩:=Eb h;refine aq (r.get q5) λu u1 u2=>pN ?_;have hs:=r.eD;replace u1:=Array.getElem?_toList▸u1;refine ⟨(af ("list") (by simp [jK]) (af _ hl rfl)),?_⟩;by_cases h0:0<=j
 ·refine wpAny_getItem_list ⟨_,hl,rfl,_,rfl⟩ h0 (Ck q3) ?_ ⟨u2,_,(nR _),rfl⟩;refine (q6 h0)▸?_;exact u1
 ·refine ay (q7 (Cm h0)) λq8 q9=>wpAny_getItem_list_neg ⟨_,hl,rfl,_,rfl⟩ (Cm h0) (hs▸q8) (Cj q2) ?_ ⟨u2,_,(nR _),rfl⟩;refine hs▸q9▸?_;exact u1
def RN {a:Addr}{T:Array Value}{xs:List V}{i:V}{u:Value}{v:V}(hl:IsTup k.h a T)(r:aO W.w k.g xs T.toList)(hi:VR W.w k.g i u)(h:t8 xs i=some v):uS W A k (.ref a) u v:=by refine bc λTP=>aH h λj H h=>?_;obtain rfl:=fW H;(refine aM hi.da λt TQ=>?_;subst TQ);obtain ⟨⟨q1,q2,q3⟩,m,q4,q5,q6,q7⟩:=Eb h;refine aq (r.get q5) λu u1 u2=>TP ?_;rw [Array.getElem?_toList] at u1;exact ⟨(af ("tuple") (by simp [jK]) hl.typeIs),PyProof.Rows.getItem_tuple hl (Cj q2) (Ck q3) (by refine r.eD▸?_;exact q4) u1 ⟨u2,_,(nR _),rfl⟩⟩
def Gj (hu:A.units+250<cLine)(ag:k.g.In k.h){a:Addr}{S:List (V×V)}{i:V}{u:Value}{v:V}(q:DR W.w k.g k.h a S)(hi:VR W.w k.g i u)(h:(dh S i).bind id=some v):uS W A k (.ref a) u v:=by refine bc λue=>?_;(refine aH h λr hr kq=>?_;subst kq);exact bW (zv hr) λd H M h3=>fA q λo _ _ z1 uT _=>ay uT λz2 _=>ue (⟨⟨"dict",by simp [jK],o,z1,z2.1⟩,(q.road ag hu hi H M).item h3.symm λt w ht z=>⟨z,t,ht,rfl⟩⟩)
def RO {x:Str}{t:Tok}{i:V}{u:Value}{v:V}(hi:VR W.w k.g i u)(h:((c8 i).bind λi=>guard (decide (0<=i)&&bQ i) ((x.cps[i.toNat]?).bind λc=>some (.str ⟨#[c]⟩)))=some v):uS W A k (.str x t) u v:=by
 refine aH h λj H h=>?_;obtain rfl:=fW H;obtain ⟨t',rfl⟩:=hi.da;obtain ⟨q,h⟩:=bK h;refine aH h λch M h=>?_;obtain rfl:=oj h;rw [Bool.and_eq_true,decide_eq_true_iff,qA] at q;refine ⟨(af ("str") (by simp [jK]) (typeIs_str k.s _ _)),PyProof.Rows.getItem_str ?_ ?_ ⟨.str _ _,_,(lS _),rfl⟩⟩
 ·rw [Bool.or_eq_false_iff,decide_eq_false_iff_not,decide_eq_false_iff_not];exact ⟨Int.not_lt.mpr (Cj (x9 q.2.1)),Int.not_le.mpr (Ck (IP q.2.2))⟩
 ·have hl:=(Array.getElem?_eq_some_iff.mp M).1;have e:seqIndex? j x.length=some j.toNat:=by
   delta seqIndex?;refine (if_neg (JJ q.1)).symm▸?_;rw [if_pos (by rw [Bool.and_eq_true,decide_eq_true_iff,decide_eq_true_iff];exact ⟨q.1,JH q.1 hl⟩)]
  exact e.symm▸M
def Lb (hu:A.units+250<cLine)(ag:k.g.In k.h){a:LV}{i v:V}{c u:Value}{bb:Addr}(ha:LR W k.g k.h (some c) bb a)(hi:VR W.w k.g i u)(h:cz a i=some v):uS W A k c u v:=by
 induction a with
 |unset=>exact aF h
 |ml xs=>obtain rfl:=oj ha.1;exact Gi ha.2 hi h
 |md S=>obtain rfl:=oj ha.1;exact Gj hu ag ha.2 hi h
 |val x=>
  have Y:=ha.fu
  cases x with
  |tup xs=>(refine aw (Y.qZ ag) λl T nZ q1 q2=>?_;subst nZ);exact RN q1 q2 hi h
  |list xs=>obtain ⟨l,rfl,q⟩:=Y.kU ag;exact Gi q hi h
  |dict S=>obtain ⟨l,rfl,q⟩:=Y.qN ag;exact Gj hu ag q hi h
  |str x=>(refine aM Y.j7 λt BI=>?_;subst BI);exact RO hi h
  |_=>exact bD h
end
def Fq {i:Int}{n:Nat}(h:0<=i):max 0 (min (if i<0 then i+(n:Int) else i) (n:Int))=((min i.toNat n:Nat):Int):=by
 (refine aM (Int.eq_ofNat_of_zero_le h) λj bu=>?_;subst bu);rw [if_neg (Int.not_lt.mpr h),Int.toNat_natCast];refine (Nat.le_total j n).elim (λq=>?_) (λq=>?_)
 ·rw [Int.min_eq_left (Int.ofNat_le.mpr q),Nat.min_eq_left q,Int.max_eq_right h]
 ·rw [Int.min_eq_right (Int.ofNat_le.mpr q),Nat.min_eq_right q,Int.max_eq_right (Int.natCast_nonneg n)]
def MY {n:Nat}:max 0 (min (if(-1:Int)<0 then-1+(n:Int) else-1) (n:Int))=((n-1:Nat):Int):=by
 induction n with
 |zero=>rfl
 |succ m=>refine (by rw [Int.natCast_succ,Int.add_comm,Int.add_neg_cancel_right]:(-1)+(m+1:Nat)=(m:Int)).symm▸(Int.min_eq_left (Int.ofNat_le.mpr (lS m))).symm▸(Int.max_eq_right (Int.natCast_nonneg m)).symm▸?_;rfl
def wA (v:Int)(n:Nat):(if v<0 then max (v+(n:Int)) 0 else min v (n:Int))=max 0 (min (if v<0 then v+(n:Int) else v) (n:Int)):=by
 by_cases h:v<0
 ·rw [if_pos h,if_pos h,Int.min_eq_left (Int.le_trans (Int.add_le_add_right (Int.le_of_lt h) _) (Int.le_of_eq (Int.zero_add _))),Int.max_comm]
 ·rw [if_neg h,if_neg h,Int.max_eq_right];exact Int.le_min.mpr ⟨Int.not_lt.mp h,Int.natCast_nonneg n⟩
noncomputable def pg (n:Nat)(d:Int):Option Int->Int
 |none=>d
 |some i=>max 0 (min (if i<0 then i+(n:Int) else i) (n:Int))
def RP (lo hi:Option Int)(n:Nat):Builtin.Slice.sliceAdjust lo hi 1 (n:Int)=(pg n 0 lo,pg n n hi):=by
 induction lo with
 |none=>induction hi with
  |none=>rfl
  |some v=>exact congrArg (Prod.mk _) (wA v n)
 |some u=>induction hi with
  |none=>exact congrArg (Prod.mk · _) (wA u n)
  |some v=>exact (congrArg (Prod.mk _) (wA v n)).trans (congrArg (Prod.mk · _) (wA u n))
def RQ (l k:Nat):Builtin.Slice.slicePlaces (l:Int) (k:Int) 1=k-l:=by
 delta Builtin.Slice.slicePlaces;rw [if_pos (by decide),Int.ediv_one];by_cases h:l<(k:Int)
 ·rw [if_pos h,Int.sub_add_cancel];exact Int.toNat_sub k l
 ·rw [if_neg h,Nat.sub_eq_zero_of_le (Int.ofNat_le.mp (Int.not_lt.mp h))];rfl
structure sk (n l h:Nat)(lo hi:Option Int):Prop where
 size:n<=1048576
 fst:l<=n
 snd:h<=n
 lo:pg n 0 lo=(l:Int)
 hi:pg n n hi=(h:Int)
def LX {n h:Nat}{hi:Option Int}(c:HK n hi=some h):h<=n/\pg n n hi=(h:Int):=by
 induction hi with
 |none=>obtain rfl:=oj c;exact ⟨nR _,rfl⟩
 |some e=>
  have c:cond (e==-1) (some (n-1)) (guard (decide (0<=e)&&bQ e) (some (min e.toNat n)))=some h:=c
  cases z:e==-1 with
  |true=>replace c:=z▸c;(injection c with q_;subst q_);obtain rfl:=bE z;exact ⟨Nat.sub_le _ _,MY⟩
  |false=>replace c:=z▸c;refine ay (bK c) λw c=>?_;obtain rfl:=oj c;exact ⟨Nat.min_le_right _ _,Fq (cS (iD w).1)⟩
def MZ {n l h:Nat}{lo hi:Option Int}(c:IT n lo hi=some (l,h)):sk n l h lo hi:=by
 refine yE c λh' q c1 c2=>?_;(injection c2 with q_;injection q_ with q_ dq;subst q_;subst dq);rw [Bool.and_eq_true,Bool.and_eq_true,decide_eq_true_iff] at q;obtain ⟨⟨q1,q2⟩,q3⟩:=q;refine ay (LX c1) λH M=>⟨fit_le q1,Nat.min_le_right _ _,H,?_,M⟩
 induction lo with
 |none=>exact congrArg (λz:Nat=>(z:Int)) (Nat.zero_min n).symm
 |some i=>exact Fq q2
def zR {α:Type}{xs ys:List α}{lo hi:Option Int}(h:yB xs lo hi=some ys):∃l k,sk xs.length l k lo hi/\ys=(xs.take k).drop l:=by exact aH h λp H h=>ax p.1 p.2 (MZ H) ((oj h).symm)
def zS {α:Type}(xs:Array α)(l k:Nat)(hk:k<=xs.size):(sliceRange l k 1).filterMap (xs[·]?)=(xs.toList.take k).drop l:=by rw [sliceRange_one,pick_run xs l (k-l),List.drop_take]
noncomputable def kc (u:Value):Option Int->Prop
 |none=>u=.none
 |some i=>∃t,u=.int i t
section
variable{W:Wd} {A:Around} {s:Shared} {Q:Value->Shared->Prop} {lo hi:Option Int} {vl vu:Value} {l k:Nat}
def KA {bA:Array Value}(c:sk bA.size l k lo hi):slicePick bA lo hi none=((bA.toList.take k).drop l).toArray:=by
 delta slicePick;have e:sliceBounds lo hi none bA.size=((l:Int),(k:Int),1):=by
  refine c.lo▸c.hi▸?_
  cases lo<;>cases hi<;>rfl
 exact e.symm▸((zS bA l k c.snd).symm▸rfl)
def EP {o:Option Int}{v:Value}{Q:Option Int->Shared->Prop}(p:kc v o)(q:Q o s):wpAny (Md W.w) A (Builtin.Slice.slicePartIndex v) Q aA s:=by
 induction o with
 |none=>subst p;exact slicePart_none q
 |some i=>(refine aM p λt dK=>?_;subst dK);exact slicePart_int q
def KC {sl:Addr}{n:Nat}{Q:Int×Int×Nat->Shared->Prop}(hs:s.heap.IsSliceOf sl vl vu .none)(pl:kc vl lo)(pu:kc vu hi)(c:sk n l k lo hi)
  (h:Q ((l:Int),1,k-l) s):wpAny (Md W.w) A (Builtin.Slice.sliceApplied (.ref sl) (pure (n:Int))) Q aA s:=by
 refine bW (id hs) λos sm JT ni=>wpAny_bind (wpAny_bind (wpAny_field sm ni (x:=vl) rfl (wpAny_bind (wpAny_field sm ni (x:=vu) rfl (wpAny_bind (wpAny_field sm ni (x:=.none) rfl (wpAny_pure (wpAny_bind (slicePart_none (wpAny_bind (EP pl (wpAny_bind (EP pu (wpAny_bind (wpAny_pure ?_)))))))))))))));show wpAny _ _ (match Builtin.Slice.sliceAdjust lo hi 1 n with|(lo,hi)=>pure (lo,(1:Int),Builtin.Slice.slicePlaces lo hi 1)) _ _ s;rw [RP,c.lo,c.hi];show wpAny _ _ (pure ((l:Int),(1),Builtin.Slice.slicePlaces l k 1)) _ _ s;rw [RQ];exact wpAny_pure h
def Ko {t sl:Addr}{bA:Array Value}(ht:IsTup s.heap t bA)(hs:s.heap.IsSliceOf sl vl vu .none)(pl:kc vl lo)(pu:kc vu hi)(c:sk bA.size l k lo hi)
  (h0:(bA.toList.take k).drop l=bA.toList->Q (.ref t) s)
  (h:Q (.ref s.heap.objs.size) {s with heap:=s.heap.push {cls:=.type "tuple",data:=.seq ((bA.toList.take k).drop l).toArray}}):wpAny (Md W.w) A (getItem (.ref t) (.ref sl)) Q aA s:=by
 have TS:sizeOk (.seq ((bA.toList.take k).drop l).toArray):=by show((bA.toList.take k).drop l).toArray.size<=sizeLine;refine List.size_toArray.symm▸List.length_drop.symm▸List.length_take.symm▸Array.length_toList.symm▸j8.symm▸?_;have:=c.size;exact JG ‹_›
 refine bc λpL=>bW (id hs) λos sm JT ni=>?_;obtain ⟨ot,JU,Zf,nt,Zg⟩:=id ht;refine pL (wpAny_holding (wpAny_bind (wpAny_sequenceKey ht.typeIs (by decide) ?_)));refine wpAny_bind (wpAny_callSpecial?_slot ht.typeIs slot_tuple_getitem
  (wpAny_call_entry slot_tuple_getitem ht.typeIs entry_tuple_getitem ?_ (args_tuple_getitem _ _)))
 show wpAny _ _ (Builtin.Tuple.tupleItemsOf (.ref t)>>=_) _ _ s;refine wpAny_bind (tupleItemsOf_ ht (wpAny_bind (wpAny_typeOf (af os sm JT) (wpAny_bind (KC hs pl pu c ?_)))));have pk:((List.range (k-l)).filterMap λ(i:Nat)=>bA[(l+(i:Int)*1).toNat]?).toArray=((bA.toList.take k).drop l).toArray:=by
  have e:(λ(i:Nat)=>bA[(l+(i:Int)*1).toNat]?)=λi=>bA[l+i]?:=by funext i;exact (show(l+(i:Int)*1).toNat=l+i by exact XJ).symm▸rfl
  rw [e,<-zS bA l k c.snd,sliceRange_one,List.filterMap_map];rfl
 show wpAny _ _ (if((l:Int)==0&&(1)==1&&(k-l)==bA.size)=true then _ else _) _ _ s;by_cases hw:((l:Int)==0&&(1:Int)==1&&(k-l)==bA.size)=true
 ·refine (if_pos hw).symm▸?_;rw [Bool.and_eq_true,Bool.and_eq_true,beq_iff_eq,beq_iff_eq,beq_iff_eq] at hw;have e:(bA.toList.take k).drop l=bA.toList:=by
   obtain rfl:l=0:=Int.natCast_inj.mp hw.1.1;rw [List.drop_zero,List.take_of_length_le (by refine Array.length_toList.symm▸?_;exact Nat.le_of_eq hw.2.symm)]
  exact wpAny_bind (wpAny_bind (wpAny_typeOf ht.typeIs (wpAny_pure (wpAny_bind (wpAny_rule (wpAny_bind (wpAny_pure (wpAny_pure ⟨_,rfl,wpAny_pure (h0 e)⟩))))))))
 ·exact (if_neg hw).symm▸pk.symm▸(wpAny_bind (wpAny_newObj_type (wpAny_pure (af _ rfl (wpAny_pure h))) TS))
def kc.G6 {o:Option Int}{v:Value}(p:kc v o):IsPart v o:=by
 induction o with
 |none=>subst p;exact .none
 |some i=>obtain ⟨t,rfl⟩:=p;exact .int i t
end
section
variable{W:Wd} {A:Around} {k:az} {lo hi:Option Int} {vl vu:Value}
def Ow {x:List Nat}(n l m:Nat)(c:sk n l m lo hi):Builtin.Str.strSliceIndices lo hi 1 n=sliceRange l m 1:=by exact (by cases lo<;>cases hi<;>rfl:Builtin.Str.strSliceIndices lo hi 1 n=sliceRange (pg n 0 lo) (pg n n hi) 1).symm▸c.lo.symm▸c.hi.symm▸rfl
set_option tactic.hygienic true in
def LY (ag:k.g.In k.h){a:V}{c:Value}{lv:LV}(ha:VR W.w k.g a c)(pl:kc vl lo)(pu:kc vu hi)(h:nX a lo hi=some lv):
  (∃au,au∈jK/\({k.s with heap:=k.h.push {cls:=.type "slice",data:=.fields #[vl,vu,.none]}}:Shared).TypeIs c au)/\
   wpAny (Md W.w) A (getItem c (.ref k.top)) (λu s=>∃g,n3 W k lv u ⟨g,k.loc,s⟩) aA {k.s with heap:=k.h.push {cls:=.type "slice",data:=.fields #[vl,vu,.none]}}:=by
 have sz:k.top<=(k.h.push {cls:=.type "slice",data:=.fields #[vl,vu,.none]}).objs.size:=by rw [Heap.size_push];exact lS _
 cases a with
 |tup xs=>
  obtain ⟨ys,H,h⟩:=oB h
  cases h
  obtain ⟨l,m,M,rfl⟩:=zR H;(refine x5 ha.qY λt o T n jr i1 i2 i3 r=>?_;subst jr);replace M:=r.eD▸M;have q1:IsTup (k.h.push {cls:=.type "slice",data:=.fields #[vl,vu,.none]}) t T:=⟨o,Heap.get?_push_of_some _ (ag _ _ i1),i2,n,i3⟩;exact ⟨(af ("tuple") (by simp [jK]) q1.typeIs),Ko q1 (Heap.IsSliceOf.new ..) pl pu M (λe=>(af k.g (.dZ ag (.push _)) (.val (.tup i1 i2 i3 (e▸r.take.drop))))) (xM ag (.trans (.push _) (.push _)) sz (eR rfl) (r.take.drop))⟩
 |list xs=>
  obtain ⟨ys,H,h⟩:=oB h
  cases h
  obtain ⟨l,m,M,rfl⟩:=zR H;obtain ⟨t,rfl,T,n,q1,r⟩:=ha.kU ag;rw [r.eD] at M;have q1:(k.h.push {cls:=.type "slice",data:=.fields #[vl,vu,.none]}).get? t=some (lobj T n):=Heap.get?_push_of_some _ q1;refine ⟨(af ("list") (by simp [jK]) ⟨_,q1,rfl⟩),wpAny_getItem_list_slice ⟨_,q1,rfl,_,rfl⟩ (Heap.IsSliceOf.new ..) pl.G6 pu.G6 .none (by intro z;exact aF z) ?_ (by refine j8.symm▸?_;have:=M.size;exact nT ‹_› (nl rfl))⟩
  exact (KA M).symm▸(xN ag (.trans (.push _) (.push _)) sz (eR rfl) r.take.drop)
 |str x=>
  obtain ⟨ys,H,h⟩:=oB h;obtain rfl:=oj h;(refine aG (zR H) λl m M t_=>?_;subst t_);obtain ⟨t,rfl⟩:=ha.j7;replace M:=Array.length_toList▸M;have part:∀{o:Option Int}{v:Value},kc v o->∃q:Option (Int×Tok),v=partValue q/\q.map (·.1)=o:=λ{o v} p=>by
   induction o with
   |none=>subst p;exact af none rfl rfl
   |some i=>obtain ⟨t,rfl⟩:=p;exact af (some (i,t)) rfl rfl
  (refine aq (part pl) λvD TU el=>?_;subst TU);(refine aq (part pu) λJV TV eu=>?_;subst TV);refine ⟨(af ("str") (by simp [jK]) (typeIs_str _ _ _)),wpAny_getItem_str_slice (u:=JV) (st:=none) (bX _ (Heap.get?_push_size _ rfl) rfl rfl) rfl ?_⟩;have picked:slicePicked x vD JV none=sliceRange l m 1:=by delta slicePicked;exact el.symm▸eu.symm▸(Ow (x:=[]) x.cps.size l m M)
  delta sliceMade;refine picked.symm▸?_;split
  ·rename_i q;have q:(sliceRange l m 1).length=x.length:=by simpa using q
   have e:(x.cps.toList.take m).drop l=x.cps.toList:=by rw [sliceRange_one,lM,List.length_range] at q;have e1:x.length=x.cps.size:=rfl;obtain rfl:l=0:=Wx q M.snd M.fst;rw [List.drop_zero,List.take_of_length_le (by refine Array.length_toList.symm▸?_;exact Nat.le_of_eq (Eq.symm ‹_›))]
   exact e.symm▸(af k.g (.dZ ag (.push _)) (.val (.str _ _)))
  ·rw [(zS x.cps l m M.snd)];refine ⟨?_,k.g,.dZ ag (.trans (.push _) (.tok (h:=(lS _)) _)),.val (.str _ _)⟩;show((x.cps.toList.take m).drop l).toArray.size<=sizeLine;refine List.size_toArray.symm▸List.length_drop.symm▸List.length_take.symm▸Array.length_toList.symm▸j8.symm▸?_;have:=M.size;exact JG ‹_›
 |_=>exact bD h
end
def zx {bj:Model}{Γ:Ctx}{p:Pos}{t:Sem Fin}{fs:List Frame}{s s':Shared}{e:End}(h:Runs bj Γ p t fs s e s'):s.heap.objs.size<=s'.heap.objs.size:=by induction h<;>(try simp only [Shared.setGen,Heap.size_push,Heap.size_after_update] at*)<;>(first|assumption|exact nR _|exact lA _ _|exact lS _|exact lZ _|exact Nat.succ_pos _|exact Nat.lt_succ_self _|decide|exact Nat.le_of_lt ‹_›|exact Nat.le_of_lt_succ ‹_›|exact lL ‹_› ‹_›|exact nT ‹_› ‹_›|exact Nat.lt_of_le_of_lt ‹_› ‹_›|exact nT ‹_› (lA _ _)|exact nT ‹_› (nA ‹_› _)|exact Nat.ne_of_gt ‹_›|exact Nat.ne_of_lt ‹_›|exact Nat.pos_of_ne_zero ‹_›|exact Nat.lt_of_le_of_ne ‹_› ‹_›|exact absurd ‹_› (Nat.not_lt_zero _)|exact Nat.not_lt.mp ‹_›|exact Nat.not_le.mp ‹_›|exact gW ‹_›|exact Nat.not_le.mpr ‹_›)
def KU {bj:Model}{Γ:Ctx}{p:Pos}{s s':Shared}{r:Result}(h:Returns bj Γ p s r s'):s.heap.objs.size<=s'.heap.objs.size:=zx h
def LZ {bj:Model}{Γ:Ctx}{p:Pos}{g:Nat}{r:Resume}{s s':Shared}{res:GenResult}(h:Wakes bj Γ p g r s res s'):s.heap.objs.size<=s'.heap.objs.size:=by
 delta Wakes at h;split at h
 ·exact h.elim
 ·split at h
  ·(refine hZ h λjL s₁ hr _ _ cG=>?_;subst cG);exact (zx hr:(s.setGen g .running).heap.objs.size<=s₁.heap.objs.size)
  ·rw [h.2];exact nR _
  ·exact h.2.symm▸nR _
 ·(refine hZ h λjL s₁ hr _ _ lG=>?_;subst lG);exact (zx hr:(s.setGen g .running).heap.objs.size<=s₁.heap.objs.size)
 ·rw [h.2];exact nR _
 ·rw [h.2];exact nR _
def Qd {α:Type}(bj:Model)(Γ:Ctx)(n:Nat)(t:Sem α):∀(Q:α->Pos->Shared->Prop)(E:Value->Pos->Shared->Prop)(p:Pos)(s:Shared),n<=s.heap.objs.size->Sem.wp bj Γ t Q E p s->
  Sem.wp bj Γ t (λa p' s'=>n<=s'.heap.objs.size/\Q a p' s') (λe p' s'=>n<=s'.heap.objs.size/\E e p' s') p s:=by
 induction t with
 |pure a=>intro Q E p s hn h;exact ⟨hn,h⟩
 |raise e=>intro Q E p s hn h;exact ⟨hn,h⟩
 |unsupported _=>intro Q E p s _ h;exact h
 |finish _=>intro Q E p s _ h;exact h
 |rule _ k ih=>intro Q E p s hn h;exact ih () Q E p s hn h
 |«at» p' k ih=>intro Q E p s hn h;exact ih () Q E p' s hn h
 |load a _ k ih=>intro Q E p s hn h;refine aq h λo ho h=>?_;exact af o ho (ih o Q E p s hn h)
 |update a _ f k ih=>intro Q E p s hn h;exact ⟨h.1,ih () Q E p _ (by show n<=(s.heap.update a f).objs.size;rw [Heap.size_after_update];exact hn) h.2⟩
 |loadIfAlive a k ih=>intro Q E p s hn h;exact ih _ Q E p s hn h
 |point _ k ih=>intro Q E p s hn h;exact ih () Q E p s hn h
 |register _ _=>intro Q E p s _ h;exact h
 |alloc o k ih=>intro Q E p s hn h;exact ih _ Q E p _ (by show n<=(s.heap.push o).objs.size;rw [Heap.size_push];exact lB hn) h
 |fresh k ih=>intro Q E p s hn h;exact ih _ Q E p _ hn h
 |ask k ih=>intro Q E p s hn h;exact ih _ Q E p s hn h
 |choose src m k ih=>intro Q E p s hn h;exact ⟨h.1,ih _ Q E p _ hn h.2⟩
 |os q _ k ih=>intro Q E p s hn h;exact ih _ Q E p _ hn h
 |call c hd _ _ k ih=>intro Q E p s hn h;refine aG h λr s' hr h=>?_;exact ax r s' hr (ih r Q E p s' (nT hn (KU hr)) h)
 |handled own k ih=>intro Q E p s hn h;exact ih _ Q E p s hn h
 |genState g k ih=>intro Q E p s hn h;refine aq h λst hs h=>?_;exact af st hs (ih _ Q E p s hn h)
 |newGen c k ih=>intro Q E p s hn h;exact ih _ Q E p _ hn h
 |resume g r _ k ih=>intro Q E p s hn h;refine aG h λres s' hw h=>?_;exact ax res s' hw (ih res Q E p s' (nT hn (LZ hw)) h)
 |yield _ _ _ _=>intro Q E p s _ h;exact h
 |stack k ih=>intro Q E p s hn h;exact ih _ Q E p s hn h
 |fork _ _=>intro Q E p s _ h;exact h
 |thread k ih=>intro Q E p s hn h;exact ih _ Q E p s hn h
 |await _ _ _ _ _=>intro Q E p s _ h;exact h
section
variable{α:Type} {bj:Model} {A:Around} {s:Shared}
def wk {t:Sem α}{Q:α->Shared->Prop}{E:Value->Shared->Prop}(h:wpAny bj A t Q E s):
  wpAny bj A t (λa s'=>s.heap.objs.size<=s'.heap.objs.size/\Q a s') (λe s'=>s.heap.objs.size<=s'.heap.objs.size/\E e s') s:=
 λΓ p yF=>Qd bj Γ _ t _ _ p s (nR _) (h Γ p yF)
end
def oW (h:Heap)(d:Addr)(S:Array DictEntry)(ep:Nat):Prop:=∃o,h.get? d=some o/\o.ExactDict/\o.data=.dict S ep
section
variable{w:World} {A:Around} {E:Value->Shared->Prop} {s:Shared}
def Ft {d:Addr}{S:Array DictEntry}{ep:Nat}{Q:Value->Shared->Prop}(hd:(d==sysModules)=false)(hm:oW s.heap d S ep)
  (hQ:Q (.ref s.heap.objs.size) {s with heap:=s.heap.push {cls:=.type "dict_keyiterator",data:=.fields #[.ref d,.int 0 0,.int S.size 0,.int ep 0]}}):wpAny (Md w) A (pyIter (.ref d)) Q E s:=by
 refine bW hm λo ho hc IZ=>wpAny_pyIter_slot (⟨o,ho,hc.1⟩) PySem.F.slot_dict_iter (wpAny_call_entry PySem.F.slot_dict_iter (⟨o,ho,hc.1⟩) PySem.F.entry_dict_iter (wpAny_bind (wpAny_bind (wpAny_notOrdered_dict (⟨o,ho,hc.1⟩) ?_))) (PySem.F.args_dict_iter_1 _));show wpAny _ _ (pure (Value.ref d)) _ _ s;refine wpAny_pure ?_;show wpAny _ _ (Builtin.Dict.showsAll d>>=_) _ _ s;delta Builtin.Dict.showsAll;rw [if_neg (by refine hd.symm▸?_;exact gi)];refine wpAny_bind (wpAny_pure (wpAny_bind (wpAny_dictEntries ho IZ (wpAny_bind (wpAny_dictEpoch ho IZ (wpAny_bind (wpAny_newObj_type (wpAny_pure ⟨_,rfl,"dict_keyiterator",_,(af _ (Heap.get?_push_size _ rfl) rfl),PySem.F.slot_dict_keyiterator_next.lookup,?_⟩))))))));simpa [rawInt] using hQ
def Ox {it d:Addr}{i ep:Nat}{S:Array DictEntry}(fT:i<S.size){Q:Option Value->Shared->Prop}(hit:s.heap.IsKeyIter it d i S.size ep)(hm:oW s.heap d S ep)
  (hQ:∀h',h'.IsKeyIter it d (i+1) S.size ep->Heap.SameBut it s.heap h'->Q (some S[i].key) {s with heap:=h'}):wpAny (Md w) A (pyNext (.ref it)) Q E s:=by
 refine bc λiw=>bW (id hit) λo ho hc hd=>bW (id hm) λod vE X2 vF=>iw ?_;refine wpAny_bind (wpAny_attempt (wpAny_callSpecial?_slot hit.typeIs PySem.F.slot_dict_keyiterator_next
  (wpAny_call_entry PySem.F.slot_dict_keyiterator_next hit.typeIs PySem.F.entry_dict_keyiterator_next ?_ (PySem.F.args_dict_keyiterator_next_1 _))))
 refine wpAny_bind (wpAny_pure (wpAny_bind (wpAny_bind ?_)))
 first|refine wpAny_bind (wpAny_typeNameOfWhole_keyiter hit.typeIs (wpAny_pure ?_))|refine wpAny_bind (wpAny_typeNameOf_keyiter hit.typeIs (wpAny_pure ?_))
 refine wpAny_bind (wpAny_fieldsOf ho hd ?_);show wpAny _ _ (if(Value.ref d==Value.none)=true then _ else _) _ _ s;refine wpAny_bind (wpAny_pure (wpAny_bind (wpAny_dictEntries vE vF ?_)));rw [if_neg (by simp)];refine wpAny_bind (wpAny_pure (wpAny_bind (wpAny_dictEpoch vE vF ?_)));rw [if_neg (by simp)];refine wpAny_pure ?_;dsimp only;rw [if_neg (Int.not_lt.mpr (Int.natCast_nonneg i)),Int.toNat_natCast,Array.getElem?_eq_getElem fT];refine wpAny_bind ?_
 first|refine wpAny_bind (wpAny_typeNameOfWhole_keyiter hit.typeIs (wpAny_pure ?_))|refine wpAny_bind (wpAny_typeNameOf_keyiter hit.typeIs (wpAny_pure ?_))
 refine wpAny_bind (wpAny_isOneOf_keyiter hit.typeIs ?_);show wpAny _ _ (setField (.ref it) 1 (rawInt (i+1))>>=_) _ _ s;refine wpAny_bind (wpAny_setField ho hd (by simp) ?_);have yc:(s.heap.update it (Obj.mapFields (·.setIfInBounds 1 (rawInt (i+1))))).IsKeyIter it d (i+1) S.size ep:=(bX _ (Heap.get?_update_self _ ho (Obj.isFreed_of_fields (Obj.data_mapFields hd _))) ((Obj.cls_mapFields ..).trans hc) (by rw [Obj.data_mapFields hd];simp [rawInt]))
 exact wpAny_bind (wpAny_holding (wpAny_bind (wpAny_isOneOf_keyiter yc.typeIs (wpAny_pure (wpAny_pure (af _ rfl (wpAny_pure (hQ _ yc (Heap.SameBut.update ..)))))))))
def Qe {it d:Addr}{i ep:Nat}{S:Array DictEntry}(X3:S.size<=i){Q:Option Value->Shared->Prop}(hh:A.handled=none)(hit:s.heap.IsKeyIter it d i S.size ep)(hm:oW s.heap d S ep)
  (hQ:∀h',Heap.ExtBut it s.heap h'->Q none {s with heap:=h'}):wpAny (Md w) A (pyNext (.ref it)) Q E s:=by
 refine bc λuL=>bW (id hit) λo ho hc hd=>bW (id hm) λod vE X2 vF=>uL ?_;refine wpAny_bind (wpAny_attempt (wpAny_callSpecial?_slot hit.typeIs PySem.F.slot_dict_keyiterator_next
  (wpAny_call_entry PySem.F.slot_dict_keyiterator_next hit.typeIs PySem.F.entry_dict_keyiterator_next ?_ (PySem.F.args_dict_keyiterator_next_1 _))))
 refine wpAny_bind (wpAny_pure (wpAny_bind (wpAny_bind ?_)))
 first|refine wpAny_bind (wpAny_typeNameOfWhole_keyiter hit.typeIs (wpAny_pure ?_))|refine wpAny_bind (wpAny_typeNameOf_keyiter hit.typeIs (wpAny_pure ?_))
 refine wpAny_bind (wpAny_fieldsOf ho hd ?_);show wpAny _ _ (if(Value.ref d==Value.none)=true then _ else _) _ _ s;refine wpAny_bind (wpAny_pure (wpAny_bind (wpAny_dictEntries vE vF ?_)));rw [if_neg (by simp)];refine wpAny_bind (wpAny_pure (wpAny_bind (wpAny_dictEpoch vE vF ?_)));rw [if_neg (by simp)];refine wpAny_pure ?_;dsimp only;rw [if_neg (Int.not_lt.mpr (Int.natCast_nonneg i)),Int.toNat_natCast,Array.getElem?_eq_none X3];refine wpAny_bind ?_
 first|refine wpAny_bind (wpAny_typeNameOfWhole_keyiter hit.typeIs (wpAny_pure ?_))|refine wpAny_bind (wpAny_typeNameOf_keyiter hit.typeIs (wpAny_pure ?_))
 show wpAny _ _ (setField (.ref it) 0 .none>>=_) _ _ s;refine wpAny_bind (wpAny_setField ho hd (by simp) (wpAny_bind (wpAny_bind (wpAny_newObj_type ?_ (by size_fits)))));refine wpAny_bind (wpAny_of_eq (a:=Value.none) (by first|rfl|(rfl;rfl)) ?_);refine wpAny_newObj_type (wpAny_bind (wpAny_handled (hh.symm▸(wpAny_bind (wpAny_pure (wpAny_throw ?_)))))) (by size_fits);exact wpAny_bind (wpAny_isInstance (b:=true) (af _ (Heap.get?_push_size _ rfl) rfl) isSubtype_stop (wpAny_pure (hQ _ (((Heap.SameBut.update ..).extBut.push _).push _))))
end
def Walks.raw {w:World}{A:Around}(hh:A.handled=none)(J d:Addr)(ng:d≠J)(S:Array DictEntry)(ep:Nat):
  Walks pw w A J [J,d] [J] S.size (λi v=>(S[i]?).map (·.key)=some v) (λi h=>h.IsKeyIter J d i S.size ep/\oW h d S ep) where
 sub:=λb hb=>by simp at hb;simp [hb]
 frame:=λ_ _ _ st hk=>⟨st.1.at λo e=>hk J (by simp) o e,aq st.2 λo a r=>(af o (hk d (by simp) o a) r)⟩
 item:=λi s Q E hi st hQ=>by exact Ox hi st.1 st.2 λh' yc jV=>hQ _ h' s.toks (by simp [hi]) ⟨yc,aq st.2 λo a r=>(af o ((jV.2 d ng).trans a) r)⟩ λb o hb e=>jV.extBut b o (λh=>hb (by simp [h])) e
 done:=λs Q E st hQ=>Qe (nR _) hh st.1 st.2 λh' X4=>hQ h' s.toks λb o hb e=>X4 b o (λh=>hb (by simp [h])) e
 self:=λ_ _ _ _ st hQ=>wpAny_pyIter_keyiter st.1 hQ
section
variable{W:Wd} {A:Around} {k:az} {g:Gh}
structure oE (W:Wd)(g:Gh)(xs:List V)(J:Addr)(P:Nat->Value->Prop)(St:Nat->Heap->Prop)(s s':Shared):Prop where
 walks:∀A:Around,A.handled=none->∃fp,Walks pw W.w A J fp [J] xs.length P St/\∀b∈fp,b=J\/∃o,g.I b=some o
 st:St 0 s'.heap
 ext:Ext s s'
 new:s.heap.objs.size<=J/\J<s'.heap.objs.size
 item:∀i v,P i v->∃x,xs[i]?=some x/\VR W.w g x v
 own:∀{i j:Nat}{A:Around}{t:Shared}{tg:Expr}{v:Value}{Q:Unit->Shared->Prop},P j v->St i t.heap->Q () t->wpAny (Md W.w) A (letOwnedTupleGo tg (.ref J) v) Q aA t
def dW.keys {w:World}{S:List (V×V)}:∀{ds:List DictEntry},dW w g S ds->aO w g (S.map (·.1)) (ds.map (·.key)):=by
 induction S with
 |nil=>intro ds r;obtain rfl:ds=[]:=r.shape;exact .nil
 |cons p S ih=>intro ds r;(refine xZ r.shape λe r d pO a _ _ _ x=>?_;subst pO);exact .cons a (ih x)
def KD {prog:Program}{w:World}{A:Around}{J:Addr}{fp wr:List Addr}{n:Nat}{P:Nat->Value->Prop}{St:Nat->Heap->Prop}(W:Walks prog w A J fp wr n P St):Walks prog w A J fp wr n (λi v=>i<n/\P i v) St:=⟨W.sub,W.frame,λi s Q E hi st hQ=>W.item i s Q E hi st λv h' tk p=>hQ v h' tk ⟨hi,p⟩,W.done,W.self⟩
def M0 {A:Around}{t:Shared}{tg:Expr}{J:Addr}{v:Value}{Q:Unit->Shared->Prop}(h:(∃a,v=.ref a)->∃o au T,t.heap.get? J=some o/\o.cls=.type au/\o.data=.fields T/\["enumerate","zip","dict_itemiterator","dict_reverseitemiterator","odict_iterator","itertools.zip_longest","itertools.pairwise"].contains au=false)
  (q:Q () t):wpAny (Md W.w) A (letOwnedTupleGo tg (.ref J) v) Q aA t:=by
 have go:wpAny (Md W.w) A (letOwnedTupleGo (.Tuple [] 0 ⟨0,0,0,0⟩) (.ref J) v) Q aA t:=by
  induction v with
  |ref a=>refine eP (h ⟨a,rfl⟩) λo au T ho hc hd hn=>wpAny_bind (wpAny_load ho (hc.symm▸hd.symm▸?_));dsimp only;exact hn.symm▸(wpAny_pure q)
  |_=>exact wpAny_pure q
 cases tg with
 |Tuple S i p=>exact go
 |List S p=>exact go
 |_=>exact wpAny_pure q
def s7 (ag:k.g.In k.h){xs:List V}{P:Nat->Value->Prop}{St:Nat->Heap->Prop}{o:Obj}{fp:List Addr}
  (hW:∀A:Around,A.handled=none->Walks pw W.w A k.top fp [k.top] xs.length P St) (hf:∀b∈fp,b=k.top\/∃o,k.g.I b=some o) (st:St 0 (k.h.push o)) (item:∀i v,P i v->∃x,xs[i]?=some x/\VR W.w k.g x v)
  (own:∀{i j:Nat}{t:Shared}{v:Value},P j v->St i t.heap->(∃a,v=.ref a)->∃o au T,t.heap.get? k.top=some o/\o.cls=.type au/\o.data=.fields T/\["enumerate","zip","dict_itemiterator","dict_reverseitemiterator","odict_iterator","itertools.zip_longest","itertools.pairwise"].contains au=false):
  oE W k.g xs k.top P St k.s {k.s with heap:=k.h.push o}:=
 ⟨λA hA=>(af fp (hW A hA) hf),st,.push _,⟨nR _,by show _<(k.h.push o).objs.size;rw [Heap.size_push];exact Nat.lt_succ_self _⟩,item,λp st q=>M0 (own p st) q⟩
def wB (ag:k.g.In k.h){x:V}{xs:List V}{u:Value}(Y:VR W.w k.g x u)(h:bA x=some xs){Q:Value->Shared->Prop}
  (hq:∀J P St s',oE W k.g xs J P St k.s s'->Q (.ref J) s'):wpAny (Md W.w) A (pyIter u) Q aA k.s:=by
 have ne:∀{a:Addr}{o:Obj},k.g.I a=some o->a≠k.top:=λe q=>absurd (Heap.lt_size (ag _ _ e)) (by refine q.symm▸?_;exact Nat.lt_irrefl _);have Di:∀{a:Addr}{o:Obj},k.g.I a=some o->∀b∈[k.top,a],b=k.top\/∃o,k.g.I b=some o:=λe b hb=>by
  rcases mE hb with rfl|hb
  ·exact .inl rfl
  ·obtain rfl:=sE hb;exact .inr ⟨_,e⟩
 have JW:∀b∈[k.top],b=k.top\/∃o,k.g.I b=some o:=λb hb=>.inl (sE hb)
 cases x with
 |tup ys=>(injection h with q_;subst q_);(refine x5 Y.qY λa o T n TX i1 i2 i3 r=>?_;subst TX);refine wpAny_pyIter_tuple ⟨_,ag _ _ i1,i2,_,i3⟩ (hq _ (λi v=>T[i]?=some v) (λi h=>h.IsTupleIter k.top a i/\h.IsTuple a T) _ (s7 ag (λA hA=>by refine r.eD.symm▸?_;exact PySem.Walks.tuple hA k.top a (ne i1) T) (Di i1) ⟨(bX _ (eR rfl) rfl rfl),⟨_,Heap.get?_push_of_some _ (ag _ _ i1),i2,_,i3⟩⟩ (λi v hv=>r.get' (by rw [Array.getElem?_toList];exact hv)) λ_ st _=>?_));exact ay st λTY _=>bW TY λo a1 a2 a3=>fB o _ _ a1 a2 a3 (by decide)
 |list ys=>(injection h with q_;subst q_);(refine fA Y.shape λa T n TZ i1 r=>?_;subst TZ);refine wpAny_pyIter_list ⟨_,ag _ _ i1,rfl,_,rfl⟩ (hq _ (λi v=>T[i]?=some v) (λi h=>h.IsListIter k.top a i/\h.IsList a T) _ (s7 ag (λA hA=>by refine r.eD.symm▸?_;exact PySem.Walks.list hA k.top a (ne i1) T) (Di i1) ⟨(bX _ (eR rfl) rfl rfl),⟨_,Heap.get?_push_of_some _ (ag _ _ i1),rfl,_,rfl⟩⟩ (λi v hv=>r.get' (by rw [Array.getElem?_toList];exact hv)) λ_ st _=>?_));exact ay st λT4 _=>bW T4 λo a1 a2 a3=>fB o _ _ a1 a2 a3 (by decide)
 |dict S=>refine bc λBJ=>?_;(injection h with q_;subst q_);obtain ⟨a,o,ds,ep,rfl,i1,⟨i2,i3,i4,i5⟩,r⟩:=Y.shape;refine BJ ?_;refine Ft i5 (bX _ (ag _ _ i1) i2 i3) (hq _ (λi v=>(ds[i]?).map (·.key)=some v) (λi h=>h.IsKeyIter k.top a i ds.size ep/\oW h a ds ep) _ (s7 ag (λA hA=>by refine (by rw [r.keys.length,lM,Array.length_toList]:(S.map (·.1)).length=ds.size).symm▸?_;exact Walks.raw hA k.top a (ne i1) ds ep) (Di i1) ⟨(bX _ (eR rfl) rfl rfl),(bX _ (Heap.get?_push_of_some _ (ag _ _ i1)) i2 i3)⟩ (λi v hv=>r.keys.get' (by rw [List.getElem?_map,Array.getElem?_toList];exact hv)) λ_ st _=>?_));exact ay st λT5 _=>bW T5 λo a1 a2 a3=>fB o _ _ a1 a2 a3 (by decide)
 |fH a b=>
  refine bc λT6=>ay (bK h) λq h=>?_;(injection h with q_;subst q_);rw [Bool.and_eq_true,Bool.and_eq_true,qA,qA] at q;obtain ⟨⟨⟨q1,q2⟩,q3,q4⟩,q5⟩:=q;(refine n_ Y.RI λr t u y RS i1=>?_;subst RS);refine T6 ?_;refine wpAny_pyIter_range (ag _ _ i1) (small_one (x9 q1) (HJ q2) (x9 q3) (HJ q4)) (hq _ (λi v=>i<(b-a).toNat/\∃t,v=.int (a+i*1) t) (λi h=>IsRangeIter h k.top (a+i*1) (((b-a).toNat)-i) 1) _ (s7 ag (λA hA=>by rw [lM,List.length_range];exact KD (PySem.Walks.range hA k.top a 1 (b-a).toNat)) JW ?_ (λi v hv=>?_) λhp _ z=>?_))
  ·show IsRangeIter _ _ (a+(0:Nat)*1) (((b-a).toNat)-(0:Nat)) 1;exact (by simp:(a+(0:Nat)*1)=a).symm▸(by refine (by rw [rangeSize_one];exact (Decidable.em (a<b)).elim (λh=>by rw [if_pos h];exact XK h) (λh=>by rw [if_neg h,Int.toNat_eq_zero.mpr (Int.sub_nonpos_of_le (Int.not_lt.mp h))];rfl):Builtin.Range.rangeSize a b 1=((b-a).toNat)).symm▸?_;simp:(((b-a).toNat)-(0:Nat))=Builtin.Range.rangeSize a b 1).symm▸eR rfl
  ·obtain ⟨H,t,rfl⟩:=hv;refine ⟨.int (a+i),?_,by rw [Int.mul_one];exact .int _ _⟩;rw [List.getElem?_map,List.getElem?_range H];rfl
  ·obtain ⟨_,_,rfl⟩:=hp;obtain ⟨_,e⟩:=z;exact rO e rfl
 |str x=>
  (injection h with q_;subst q_);obtain ⟨t,rfl⟩:=Y.j7;refine wpAny_pyIter_str λo St hW h0=>hq _ (SignAt x) St _ (s7 ag (λA hA=>by rw [lM,Array.length_toList];exact hW A hA) JW h0 (λi v hv=>?_) λhp _ z=>?_)
  ·(refine aG hv λc t' H RT=>?_;subst RT);refine af (.str ⟨#[c]⟩) ?_ (.str _ _);rw [List.getElem?_map,Array.getElem?_toList,H];rfl
  ·(refine aG hp λ_ _ _ RU=>?_;subst RU);obtain ⟨_,e⟩:=z;exact rO e rfl
 |_=>exact bD h
end
set_option backward.match.sparseCases true
section
variable{bj:Model} {A:Around} {E:Value->Shared->Prop} {s:Shared} {env:Env}
def Kr {l:Expr}{op:CmpOp}{r:Expr}{pos:Pos}{whole:Sem Value}{Q:Bool->Shared->Prop}(h:wpAny bj A (eval (.Compare l [op] [r] pos) env) (λv s'=>wpAny bj A (truthy v) Q E s') E s):
  wpAny bj A (isTrue (.Compare l [op] [r] pos) env whole) Q E s:=λΓ p yF=>by
 have h:=h Γ p yF;rw [eval_Compare1] at h;rw [isTrue_Compare1];simp only [Sem.wp_bind',Sem.wp_holding,Sem.wp_cmd_standAt,Sem.wp_operate] at h⊢;exact Sem.wp_mono bj Γ _ (λa Y6 s₁ gQ=>Sem.wp_mono bj Γ _ (λb Y7 bO pP=>Sem.wp_mono bj Γ _ (λc WG cR oh=>oh Γ WG yF) (λ_ _ _ h'=>h') _ _ pP) (λ_ _ _ h'=>h') _ _ gQ) (λ_ _ _ h'=>h') _ _ h
def Ky {l r1 r2:Expr}{fJ dJ:CmpOp}{pos:Pos}{Q:Value->Shared->Prop}
  (h:wpAny bj A (eval l env) (λa s₁=>wpAny bj A (eval r1 env) (λb bO=>wpAny bj A (compareOp fJ a b) (λc cR=>wpAny bj A (truthy c) (λt ia=>if t=true then wpAny bj A (eval r2 env) (λd pQ=>wpAny bj A (compareOp dJ b d) Q E pQ) E ia else Q c ia) E cR) E bO) E s₁) E s)
  (hm:behindInMarks dJ r2=false):wpAny bj A (eval (.Compare l [fJ,dJ] [r1,r2] pos) env) Q E s:=by
 show wpAny bj A (do
  let a<-eval l env
  compareChain pos a [fJ,dJ] [eval r1 env,markedBehindIn dJ r2 (eval r2 env)]) Q E s
 refine wpAny_bind (wpAny_mono h (λa s₁ gQ=>?_) λ_ _ x=>x);show wpAny bj A (do
  let rv<-holding [a] (eval r1 env)
  standAt pos
  let c<-holding [a,rv] (compareOp fJ a rv)
  release [a,rv] [c]
  if<-holding [c,rv] (truthy c) then(do
   let rw<-holding [rv] (markedBehindIn dJ r2 (eval r2 env))
   standAt pos
   operate [rv,rw] (compareOp dJ rv rw)) else pure c) Q E s₁
 refine wpAny_bind (wpAny_holding (wpAny_mono gQ (λb bO pP=>wpAny_bind (wpAny_standAt (wpAny_bind (wpAny_holding (wpAny_mono pP (λc cR oh=>wpAny_bind (wpAny_release (wpAny_bind (wpAny_holding (wpAny_mono oh (λt ia yd=>?_) λ_ _ x=>x))))) λ_ _ x=>x))))) λ_ _ x=>x))
 induction t with
 |false=>exact wpAny_pure yd
 |true=>exact (markedBehindIn_of_false hm).symm▸(wpAny_bind (wpAny_holding (wpAny_mono yd (λd pQ CE=>wpAny_bind (wpAny_standAt (wpAny_operating CE))) λ_ _ x=>x)))
end
section
variable{W:Wd} {n:Nat} {c:Cx W n} {x x' aI:X} {k k' aC:az} {lv:LV} {f:bp} {Z:LV->X->Kt} {r:LV×St}
def ee.fin {t:Sem Value}(h:ee W c.A k t lv)(p:Inv c aI aC)(a:aL c aI aC x k):wpAny (Md W.w) c.A t (λu s=>∃g l,aL c aI aC x ⟨g,l,s⟩/\Got W aC.top ⟨g,l,s⟩ lv u) aA k.s:=wpAny_mono h (λu s nh=>aM nh λg q=>(dB g k.loc (a.leaf p q.1 q.2))) λ_ _ x=>x
def aL.fin (a:aL c aI aC x k){v:V}{u:Value}(r:VR W.w k.g v u)(t:Nat)(ht:k.s.toks<=t):∃g l,aL c aI aC x ⟨g,l,{k.s with toks:=t}⟩/\Got W aC.top ⟨g,l,{k.s with toks:=t}⟩ (.val v) u:=(dB k.g k.loc (a.tok t r ht))
def RV (F:bM W n f){l e:Expr}{op:Operator}{pos:Pos}(h:(cB f l x λa x=>cB f e x λb x=>(fy op a b).bind λv=>Z v x)=some r):∃lv x',Z lv x'=some r/\cZ W n (.BinOp l op e pos) x lv x':=by exact bc λbu=>aG (dD  F h) λa x₁ h eW=>aG (dD  F h) λb bF h eX=>aH h λlv hb h=>bu (ax lv bF h (λc k p=>wpAny_BinOp ((eW c k p).use λu k₁ cA=>(eX.use cA.1).use λI0 k₂ b8=>(LS b8.1.inv.ag (cA.2.mono b8.2.1) b8.2.2 hb).fin p b8.1)))
def T7 (F:bM W n f){e:Expr}{op:UnaryOp}{pos:Pos}(h:(cB f e x λv x=>(yC op v).bind λv=>Z (.val v) x)=some r):∃lv x',Z lv x'=some r/\cZ W n (.UnaryOp op e pos) x lv x':=by
 refine aG (dD  F h) λa x₁ h eW=>aH h λv hv h=>ax (.val v) x₁ h (λc k p=>wpAny_UnaryOp ((eW c k p).use λu k₁ cA=>?_))
 induction op with
 |USub=>refine aH hv λi H M=>?_;obtain rfl:=fW H;obtain rfl:=oj M;obtain ⟨_,rfl⟩:=cA.2.da;exact PyProof.Rows.neg_int (cA.1.fin (ht:=(lS _)) (.int _ _) _)
 |Not=>refine aH hv λi H M=>?_;obtain rfl:=oj M;exact wpAny_holding (wpAny_bind (zp c.units cA.1.inv.ag cA.2 H λt ht=>wpAny_pure (cA.1.fin (.bool _) _ ht)))
 |_=>exact bD hv
def I1 (W:Wd)(n:Nat)(op:BoolOp)(S:List Expr)(x:X)(v:V)(x':X):Prop:=∀(c:Cx W n)(pos:Pos) k,Inv c x k->WP c (boolOp pos op (evalEach S c.env)) (λu k'=>aL c x k x' k'/\VR W.w k'.g v u) k
def Qf (F:bM W n f){op:BoolOp}:∀{S:List Expr}{x:X}{Z:V->X->Kt},xn f (op==.And) S x Z=some r->∃v x',Z v x'=some r/\I1 W n op S x v x':=by
 intro bz
 induction bz with
 |nil=>intro aJ aU aW;exact aF aW
 |cons bf bB ak=>
  intro aJ aU aW
  cases bB with
  |nil=>exact aG (dD  F aW) λv x' aW E=>ax v x' aW (λc pos k p=>E c k p)
  |cons bH bS=>
   refine aG (dD  F aW) λv x₁ aW E=>aH aW λb hb aW=>?_;have step:∀{v':V}{x':X},(∀(c:Cx W n)(pos:Pos){k k₁:az}{u:Value}{t:Nat},aL c aJ k x₁ (k₁.tok t)->VR W.w k₁.g v u->wpAny (Md W.w) c.A (match op,b with
     |.And,false=>pure u|.Or,true=>pure u|_,_=>boolOp pos op (evalEach (bH::bS) c.env)) (λu s=>∃g l,aL c aJ k x' ⟨g,l,s⟩/\VR W.w g v' u) aA (k₁.tok t).s)->I1 W n op (bf::bH::bS) aJ v' x':=λq c pos k p=>by
    show wpAny _ _ (do
     let v<-eval bf c.env
     standAt pos
     let t<-holding [v] (truthy v)
     match op,t with
     |.And,false|.Or,true=>pure v
     |_,_=>boolOp pos op (evalEach (bH::bS) c.env)) _ _ _
    exact wpAny_bind ((E c k p).use λu k₁ cA=>wpAny_bind (wpAny_standAt (wpAny_bind (wpAny_holding (zp c.units cA.1.inv.ag cA.2 hb λt ht=>q c pos (cA.1.lf (cA.1.inv.tok t ht)) cA.2)))))
   generalize hs:same (op==.And) b=z_;induction z_ with
   |true=>
    replace aW:=hs▸aW;refine aG (ak aW) λv' x' aW E2=>ax v' x' aW (step λc pos {k k₁ u t} a l=>?_);have:wpAny (Md W.w) c.A (boolOp pos op (evalEach (bH::bS) c.env)) (λu s=>∃g l,aL c aJ k x' ⟨g,l,s⟩/\VR W.w g v' u) aA (k₁.tok t).s:=(E2 c pos _ a.inv).use λu k₂ q=>ax k₂.g k₂.loc (a.trans q.1) q.2
    cases op
    ·obtain rfl:b=true:=hs;exact this
    ·obtain rfl:b=false:=by cases b<;>first|rfl|exact aS hs
     exact this
   |false=>
    replace aW:=hs▸aW;refine ax v x₁ aW (step λc pos {k k₁ u t} a l=>?_)
    cases op
    ·obtain rfl:b=false:=hs;exact wpAny_pure (ax _ _ a l)
    ·obtain rfl:b=true:=by cases b<;>first|rfl|exact d7 hs
     exact wpAny_pure (ax _ _ a l)
end
set_option backward.match.sparseCases false
set_option backward.match.sparseCases true
section
variable{W:Wd} {n:Nat} {c:Cx W n} {x x' aI:X} {k k' aC:az} {lv:LV} {f:bp} {r:LV×St}
def lI (W:Wd)(n:Nat)(t:Env->Sem Bool)(x:X)(b:Bool)(x':X):Prop:=∀(c:Cx W n) k,Inv c x k->WP c (t c.env) (λr k'=>r=b/\aL c x k x' k') k
abbrev xO (c:Cx W n)(x:X)(k:az)(b:Bool)(x':X)(r:Bool)(s:Shared):Prop:=∃g l,r=b/\aL c x k x' ⟨g,l,s⟩
def Fv (F:bM W n f){e:Expr}{Z:Bool->X->Kt}(h:qy f e x Z=some r):∃b x',Z b x'=some r/\∀(c:Cx W n) k,Inv c x k->wpAny (Md W.w) c.A (eval e c.env) (λv s=>wpAny (Md W.w) c.A (truthy v) (xO c x k b x') aA s) aA k.s:=by exact bc λbu=>aG (dD  F h) λv x₁ h E=>aH h λb hb h=>bu (ax b x₁ h (λc k p=>(E c k p).use λu k₁ q=>zp c.units q.1.inv.ag q.2 hb λt ht=>(ax k₁.g k₁.loc rfl (q.1.lf (q.1.inv.tok t ht)))))
def HR {g:De}{op:BoolOp}(ai:∀{e:Expr}{x:X}{Z:Bool->X->Kt},g e x Z=some r->∃b x',Z b x'=some r/\lI W n (λenv=>PySem.isTrue e env (eval e env)) x b x'):
  ∀{S:List Expr}{x:X}{Z:Bool->X->Kt},rQ g (op==.And) S x Z=some r->∃b x',Z b x'=some r/\lI W n (PySem.allTrue op S) x b x'
 |[],x,Z,h=>ax _ x h (λc k p=>wpAny_pure (ax k.g k.loc rfl (.refl p)))
 |e::S,x,Z,h=>by
  refine aG (ai h) λb x₁ h E=>?_;have step:∀{b':Bool}{x':X},(∀(c:Cx W n){k k₁:az},aL c x k x₁ k₁->wpAny (Md W.w) c.A (match op,b with|.And,false=>pure false|.Or,true=>pure true|_,_=>PySem.allTrue op S c.env) (xO c x k b' x') aA k₁.s)->lI W n (PySem.allTrue op (e::S)) x b' x':=λq c k p=>wpAny_bind ((E c k p).use λu k₁ cA=>cA.1▸q c cA.2);generalize hs:same (op==.And) b=z_;induction z_ with
  |true=>
   replace h:=hs▸h;refine aG (HR ai h) λb' x' h E2=>ax b' x' h (step λc {k k₁} a=>?_);have:wpAny (Md W.w) c.A (PySem.allTrue op S c.env) (xO c x k b' x') aA k₁.s:=(E2 c _ a.inv).use λu k₂ q=>ax k₂.g k₂.loc q.1 (a.trans q.2)
   cases op
   ·obtain rfl:b=true:=hs;exact this
   ·obtain rfl:b=false:=by cases b<;>first|rfl|exact aS hs
    exact this
  |false=>
   replace h:=hs▸h;refine ax b x₁ h (step λc {k k₁} a=>?_)
   cases op
   ·obtain rfl:b=false:=hs;exact wpAny_pure (ax k₁.g k₁.loc rfl a)
   ·obtain rfl:b=true:=by cases b<;>first|rfl|exact d7 hs
    exact wpAny_pure (ax k₁.g k₁.loc rfl a)
def RW (e:Expr)(env:Env):Prop:=isTrue e env (eval e env)=(do let v<-eval e env;standAt e.pos;holding [v] (truthy v))
def HS (F:bM W n f){e:Expr}{Z:Bool->X->Kt}(h:qy f e x Z=some r)(he:∀env,RW e env):∃b x',Z b x'=some r/\lI W n (λenv=>PySem.isTrue e env (eval e env)) x b x':=by exact aG (Fv  F h) λb x' h E=>ax b x' h (λc k p=>wpAny_isTrue_value (E c k p) (he _))
def ye (F:bM W n f):∀{d:Nat}{e:Expr}{x:X}{Z:Bool->X->Kt},ic f d e x Z=some r->∃b x',Z b x'=some r/\lI W n (λenv=>PySem.isTrue e env (eval e env)) x b x':=by
 intro z_
 induction z_ with
 |zero=>intro e x Z h;exact aF h
 |succ d ak=>
  intro e x Z h
  cases e with
  |UnaryOp op y q=>
   induction op with
   |Not=>exact aG (ak h) λb x' h E=>ax (!b) x' h (λc k p=>wpAny_isTrue_Not ((E c k p).use λu k₁ q=>(ax k₁.g k₁.loc (q.1.symm▸rfl) q.2)))
   |_=>exact HS F h λ_=>rfl
  |BoolOp op S q=>exact aG (HR  (λh=>ak h) h) λb x' h E=>ax b x' h (λc k p=>wpAny_isTrue_BoolOp (E c k p))
  |IfExp _ _ _ _=>exact aF h
  |Compare l ops rs q=>
   match ops,rs,h with
   |[op],[e],h=>exact aG (Fv  F h) λb x' h E=>ax b x' h (λc k p=>Kr (E c k p))
   |[],_,h=>exact aF h
   |[_],[],h=>exact aF h
   |[_],_::_::_,h=>exact aF h
   |_::_::_,_,h=>exact aF h
  |_=>exact HS F h λ_=>rfl
end
set_option backward.match.sparseCases false
section
variable{W:Wd} {n:Nat} {c:Cx W n} {x x' aI:X} {k k' aC:az} {lv:LV} {f:bp} {Z:LV->X->Kt} {r:LV×St}
def s8 {σ:St}(rl:Rl W σ k){u:Value}{b:Addr}(l:LR W k.g k.h (some u) b lv):∃b,LR W k.g k.h (some u) b (hG lv σ):=by
 induction lv with
 |val v=>
  cases v with
  |obj j=>
   (refine aG l.fu.tM λa d iF H=>?_;subst iF);show∃b,LR W k.g k.h (some (.ref a)) b (G3 (.val (.obj j)) (σ.get j));generalize hg:σ.get j=z_;induction z_ with
   |none=>exact ⟨b,l⟩
   |some o=>
    refine bc λgP=>aG (rl.obj _ _ hg) λa' d' M q=>?_;(injection H.symm.trans M with q_;injection q_ with q_ dq;subst q_;subst dq);refine gP ?_
    induction o with
    |list xs=>obtain ⟨rfl,q⟩:=q;exact ⟨a,rfl,q⟩
    |dict S=>obtain ⟨rfl,q⟩:=q;exact ⟨a,rfl,q⟩
    |inst _ _=>exact ⟨b,l⟩
  |_=>exact ⟨b,l⟩
 |_=>exact ⟨b,l⟩
def qd.Cv {e:Expr}{v:V}(E:qd W n e x v x'):vC W n e x (.val v) x':=λc k p=>(E c k p).mono λ_ _ q=>⟨q.1,.val q.2⟩
def cZ.go {e:Expr}(h:cZ W n e x lv x')(a:aL c aI aC x k):WP c (eval e c.env) (λu k'=>aL c aI aC x' k'/\Got W aC.top k' lv u) k:=(h c k a.inv).mono λ_ _ q=>⟨a.trans q.1,q.2.weak a.go.size⟩
def vC.use {e:Expr}(h:vC W n e x lv x')(a:aL c aI aC x k):WP c (eval e c.env) (λu k'=>aL c aI aC x' k'/\k.g.Le k'.g/\lH c k' lv u) k:=(h c k a.inv).mono λ_ _ q=>bx (a.trans q.1) q.1.go.le q.2
def WH (F:bM W n f){op:CmpOp}{e:Expr}(h:p9 f op e x Z=some r):∃lv x',Z lv x'=some r/\vC W n e x lv x':=by
 delta p9 at h;generalize hi:xm op=z_;induction z_ with
 |true=>rw [hi] at h;exact uO F h
 |false=>rw [hi] at h;exact aG (dD  F h) λv x' h E=>ax (.val v) x' h E.Cv
def Qg (aK:eG f){op:CmpOp}{e:Expr}(h:p9 f op e x Z=some r):behindInMarks op e=false:=by
 cases e with
 |Set S j p=>
  have:p9 f op (.Set S j p) x Z=none:=by
   delta p9 kF cB;show cond _ (f (.Set S j p) x Z) _=none;rw [aK.set,aK.set]
   cases xm op<;>rfl
  exact aF (this.symm.trans h)
 |_=>rfl
def Gk (F:bM W n f){op:CmpOp}{a:V}{e:Expr}(h:x_ f op a e x Z=some r):
  ∃t x',Z (.val (.bool t)) x'=some r/\∀{c:Cx W n}{aI:X}{aC k:az}{u:Value},aL c aI aC x k->VR W.w k.g a u->wpAny (Md W.w) c.A (eval e c.env) (λd s=>wpAny (Md W.w) c.A (compareOp op u d) (λy s=>y=.bool t/\∃g l,aL c aI aC x' ⟨g,l,s⟩) aA s) aA k.s:=by
 exact bc λWI=>aG (WH  F h) λb x₁ h E=>aH h λt ht h=>WI (ax t x₁ h (λ{c aI aC k u} a ha=>(E.use a).use λd k₁ q=>bc λuM=>aq q.2.2 λbb l _=>aM (s8 q.1.inv.rl l) λb' l'=>uM (Er c.units q.1.inv.ag (ha.mono q.2.1) l' ht λt ht=>⟨rfl,k₁.g,k₁.loc,q.1.lf (q.1.inv.tok t ht)⟩)))
def aL.bool {t:Bool}{y:Value}{s:Shared}{aI:X}{aC:az}(h:y=.bool t/\∃g l,aL c aI aC x' ⟨g,l,s⟩):∃g l,aL c aI aC x' ⟨g,l,s⟩/\Got W aC.top ⟨g,l,s⟩ (.val (.bool t)) y:=by obtain ⟨rfl,g,l,a⟩:=h;exact ax g l a (.val (.bool _))
def Qh (F:bM W n f)(aK:eG f){fJ dJ:CmpOp}{a:V}{l r1 r2:Expr}{pos:Pos}{x₁:X}(eW:qd W n l x a x₁)(h:ya f fJ dJ a r1 r2 x₁ Z=some r):
  ∃lv x',Z lv x'=some r/\cZ W n (.Compare l [fJ,dJ] [r1,r2] pos) x lv x':=by
 delta ya at h;generalize hm:behindInMarks dJ r2=z_;induction z_ with
 |true=>replace h:=hm▸h;exact aF h
 |false=>
  replace h:=hm▸h;refine aG (dD  F h) λb bF h eX=>aH h λt ht h=>?_;have step:∀{lv:LV}{x':X},(∀c {k k₂:az} {u:Value},aL c x k bF k₂->VR W.w k₂.g b u->if t=true then wpAny (Md W.w) c.A (eval r2 c.env) (λd s=>wpAny (Md W.w) c.A (compareOp dJ u d) (λv s=>∃g l,aL c x k x' ⟨g,l,s⟩/\Got W k.top ⟨g,l,s⟩ lv v) aA s) aA k₂.s else∃g l,aL c x k x' ⟨g,l,k₂.s⟩/\Got W k.top ⟨g,l,k₂.s⟩ lv (.bool t))->
    cZ W n (.Compare l [fJ,dJ] [r1,r2] pos) x lv x':=λq c k p=>
   Ky ((eW c k p).use λu k₁ cA=>(eX.use cA.1).use λv k₂ b8=>Er c.units b8.1.inv.ag (cA.2.mono b8.2.1) (b:=.val b) (bb:=0) (af v rfl b8.2.2) ht λtk htk=>wpAny_truthy_bool (q c (b8.1.lf (b8.1.inv.tok tk htk)) b8.2.2)) hm
  induction t with
  |true=>exact aG (Gk  F h) λt2 x' h pR=>ax _ x' h (step λc {k k₂ u} a hv=>wpAny_mono (pR a hv) (λd s q=>wpAny_mono q (λy s q=>aL.bool q) λ_ _ z=>z) λ_ _ z=>z)
  |false=>exact ax _ bF h (step λc {k k₂ u} a hv=>(ax _ _ a (.val (.bool _))))
def ja {α:Type}{l:List α}{a:α}(h:one l=some a):l=[a]:=by
 cases l with
 |nil=>exact aF h
 |cons b l=>induction l with
  |nil=>obtain rfl:=oj h;rfl
  |cons _ _=>exact aF h
def wJ {α:Type}{l:List α}{p:α×α}(h:iW l=some p):l=[p.1,p.2]:=by
 cases l with
 |nil=>exact aF h
 |cons b l=>cases l with
  |nil=>exact aF h
  |cons _ l=>induction l with
   |nil=>obtain rfl:=oj h;rfl
   |cons _ _=>exact aF h
def RX (F:bM W n f)(aK:eG f){l:Expr}{ops:List CmpOp}{rs:List Expr}{pos:Pos}(h:Bo f l ops rs x Z=some r):∃lv x',Z lv x'=some r/\cZ W n (.Compare l ops rs pos) x lv x':=by
 refine aG (dD  F h) λa x₁ h eW=>?_
 cases ops with
 |nil=>exact aF h
 |cons op ops=>
  cases ops with
  |nil=>refine aH h λe he h=>?_;obtain rfl:=ja he;have hm:=Qg aK h;exact aG (Gk  F h) λt x' h eX=>ax _ x' h (λc k p=>wpAny_Compare1 ((eW c k p).use λu k₁ cA=>wpAny_mono (eX cA.1 cA.2) (λd s q=>wpAny_mono q (λy s q=>aL.bool q) λ_ _ z=>z) λ_ _ z=>z) hm)
  |cons dJ ops=>
   induction ops with
   |nil=>refine aH h λe he h=>?_;obtain rfl:=wJ he;exact Qh F aK eW h
   |cons _ _=>exact aF h
def T8 (F:bM W n f){t b o:Expr}{pos:Pos}(h:(ic f 8 t x λc x=>cond c (f b x Z) (f o x Z))=some r):∃lv x',Z lv x'=some r/\cZ W n (.IfExp t b o pos) x lv x':=by
 refine aG (ye  F h) λz x₁ h eW=>?_;have step:∀{lv:LV}{x':X},cZ W n (cond z b o) x₁ lv x'->cZ W n (.IfExp t b o pos) x lv x':=λE c k p=>
  wpAny_IfExp ((eW c k p).use λu k₁ q=>by
   obtain ⟨rfl,a⟩:=q
   cases u<;>exact (E.go a))
 induction z with
 |true=>obtain ⟨lv,x',h,E⟩:=F  h;exact ⟨lv,x',h,step E⟩
 |false=>obtain ⟨lv,x',h,E⟩:=F  h;exact ⟨lv,x',h,step E⟩
def G7 (F:bM W n f){e:Option Expr}{Z:Option Int->X->Kt}(h:xG f e x Z=some r):∃i x',Z i x'=some r/\∀(c:Cx W n) k,Inv c x k->WP c (evalPart e c.env) (λu k'=>aL c x k x' k'/\kc u i) k:=by
 induction e with
 |none=>exact ax none x h (λc k p=>wpAny_pure (ax k.g k.loc (.refl p) rfl))
 |some e=>refine bc λT9=>aG (dD  F h) λv x₁ h E=>aH h λi hi h=>?_;obtain rfl:=fW hi;exact T9 (ax (some i) x₁ h (λc k p=>(E c k p).mono λu k' q=>⟨q.1,q.2.da⟩))
def RY (F:bM W n f){e i:Expr}{pos:Pos}(h:Bq f e i x Z=some r):∃lv x',Z lv x'=some r/\cZ W n (.Subscript e i pos) x lv x':=by
 have idx:Bp f e i x Z=some r->∃lv x',Z lv x'=some r/\cZ W n (.Subscript e i pos) x lv x':=λh=>by refine bc λT_=>aG (uO  F h) λa x₁ h eW=>aG (dD  F h) λj bF h eX=>aH h λv hv h=>T_ (ax (.val v) bF h (λc k p=>Fp ((eW c k p).use λu k₁ cA=>(eX c _ cA.1.inv).use λd k₂ b8=>bc λBG=>aM (cA.2.later b8.1.go) λb l=>aM (s8 b8.1.inv.rl l) λb' l'=>ay (Lb c.units b8.1.inv.ag l' b8.2 hv) λz1 z2=>BG ?_)));exact ⟨z1,wpAny_mono z2 (λy s ⟨y1,t,ht,e⟩=>by subst e;exact (cA.1.trans b8.1).fin y1 t ht) λ_ _ z=>z⟩
 cases i with
 |Slice lo hi st p=>
  induction st with
  |some _=>exact aF h
  |none=>exact bc λBK=>aG (dD  F h) λa x₁ h eW=>aG (G7  F h) λsx bF h eX=>aG (G7  F h) λZh I2 h pR=>aH h λlv hv h=>BK (ax lv I2 h (λc k p=>Fp ((eW c k p).use λu k₁ cA=>wpAny_Slice ((eX c _ cA.1.inv).use λd k₂ b8=>(pR c _ b8.1.inv).use λe rS kx=>ay (LY (A:=c.A) ((cA.1.trans b8.1).trans kx.1).inv.ag ((cA.2.mono b8.1.go.le).mono kx.1.go.le) b8.2 kx.2 hv) λz1 z2=>wpAny_pure ⟨z1,wpAny_mono z2 (λy s Ua=>aM Ua λg q=>(dB g rS.loc (((cA.1.trans b8.1).trans kx.1).leaf p q.1 q.2))) λ_ _ z=>z⟩))))
 |_=>exact idx h
def Oy (F:bM W n f)(aK:eG f){S:List Expr}{j:Nat}{pos:Pos}(h:(iv f S x λT x=>guard (aY T.length) (Z (.val (.tup T)) x))=some r):∃lv x',Z lv x'=some r/\cZ W n (.Tuple S j pos) x lv x':=by refine bc λBL=>aw (mx  F aK h) λT x₁ h E _=>ay (bK h) λhf h=>BL ?_;refine ax _ x₁ h (λc k p=>wpAny_Tuple ((E c _ k p).use λus k₁ q=>⟨by refine q.2.length▸j8.symm▸?_;have:=fit_le hf;exact nT ‹_› (nl rfl),?_⟩));exact aM (xM q.1.inv.ag (.push _) (nR _) (eR rfl) q.2) λg l=>dB g k₁.loc (q.1.leaf p l.1 l.2)
def Qi (F:bM W n f)(aK:eG f){S:List Expr}{pos:Pos}(h:(iv f S x λT x=>guard (aY T.length) (Z (.ml T) x))=some r):∃lv x',Z lv x'=some r/\cZ W n (.List S pos) x lv x':=by refine bc λUb=>aw (mx  F aK h) λT x₁ h E _=>ay (bK h) λhf h=>Ub ?_;refine ax _ x₁ h (λc k p=>wpAny_List ((E c _ k p).use λus k₁ q=>⟨by refine q.2.length▸j8.symm▸?_;have:=fit_le hf;exact nT ‹_› (nl rfl),?_⟩));obtain ⟨g,l⟩:=xN q.1.inv.ag (.push _) (nR _) (eR rfl) q.2;exact dB g k₁.loc (q.1.leaf p l.1 l.2)
end
def gx (W:Wd)(h:Heap):Prop:=∀b o,W.eF b=some o->h.get? b=some o
structure Cl (W:Wd):Prop where
 load:∀{c m:Str}{A:Around}{s:Shared}{a d:Addr}{f:Str->Option Value}{u:Value}{expr:Bool}{Q:Value->Shared->Prop},je m=true->gx W s.heap->pd W s.heap c a d f->f m=some u->handedIn u=true->
  (∀t,s.toks<=t->Q u {s with toks:=t})->wpAny (Md W.w) A (getAttr (.ref a) m expr) Q aA s
 mU:∀{c m:Str}{i:Nat×Nat}{A:Around}{s:Shared}{a d:Addr}{f:Str->Option Value}{pl:Sem Bool}{Q:Value×List Value->Shared->Prop},nM c m=some i->gx W s.heap->pd W s.heap c a d f->f m=none->
  Q (.ref (W.eI i),[.ref a]) s->wpAny (Md W.w) A (getMethod (.ref a) m pl) Q aA s
 store:∀{c m:Str}{A:Around}{s:Shared}{a d:Addr}{f:Str->Option Value}{v:Value}{Q:Unit->Shared->Prop},je m=true->gx W s.heap->pd W s.heap c a d f->
  (∀h' t,s.toks<=t->h'.Ns1 d (λy=>if y=m then some v else f y)->Heap.SameBut d s.heap h'->Q () {s with heap:=h',toks:=t})->wpAny (Md W.w) A (setAttr (.ref a) m v) Q aA s
structure uf (W:Wd)(k:az)(lv:LV)(σ':St)(u:Value)(k':az):Prop where
 rl:Rl W σ' k'
 go:Go bP bP k k'
 loc:k'.loc=k.loc
 got:Got W k.top k' lv u
def rz (W:Wd)(A:Around)(k:az)(t:Sem Value)(lv:LV)(σ':St):Prop:=wpAny (Md W.w) A t (λu s=>∃g,uf W k lv σ' u ⟨g,k.loc,s⟩) aA k.s
structure mq (W:Wd)(n:Nat)(call:hU):Prop where
 keep:∀{i:Nat×Nat}{args:List V}{σ:St}{r:LV×St},call i args σ=some r->∃o fd,W.eF (W.eI i)=some o/\o.data=.func fd
 run:∀{i:Nat×Nat}{args:List V}{σ:St}{r:LV×St}{A:Around}{k:az}{us:List Value},call i args σ=some r->Rm n A->0<k.s.toks->(∀b o,W.eF b=some o->k.g.I b=some o)->Rl W σ k->aO W.w k.g args us->
  rz W A k (PySem.call (.ref (W.eI i)) us) r.1 r.2
structure ph (W:Wd)(n:Nat)(new:km):Prop where
 keep:∀{c:Str}{args:List V}{σ:St}{r:Nat×St},new c args σ=some r->∀h,gx W h->Looks (Md W.w) h (keeperOf (.ref (W.eE c))) .machine
 run:∀{c:Str}{args:List V}{σ:St}{r:Nat×St}{A:Around}{k:az}{us:List Value},new c args σ=some r->Rm n A->0<k.s.toks->(∀b o,W.eF b=some o->k.g.I b=some o)->Rl W σ k->aO W.w k.g args us->
  rz W A k (PySem.call (.ref (W.eE c)) us) (.val (.obj r.1)) r.2
def HT (W:Wd):Prop:=∀{b:Bt}{as:List V}{lv:LV}{A:Around}{k:az}{us:List Value},blt b as=some lv->A.units+250<cLine->A.handled=none->gx W k.h->k.g.In k.h->aO W.w k.g as us->
 ee W A k (PySem.call (uN b) us) lv
def HU (W:Wd):Prop:=∀{a:LV}{v:V}{A:Around}{k:az}{u:Value}{b:Addr},kW a=some v->gx W k.h->k.g.In k.h->LR W k.g k.h (some u) b a->ee W A k (PySem.call (.builtin "len") [u]) (.val v)
structure gh (W:Wd):Prop where
 top:Tp W
 cls:Cl W
 blt:HT W
 len:HU W
section
variable{bj:Model} {w:World} {A:Around} {s:Shared} {env:Env}
def KV {f:Value}{args:List (Bool×Sem Value)}{Q:Args->Shared->Prop}{E:Value->Shared->Prop}(hp:args.any (·.1)=false)(h:wpAny bj A (spliced args) (λT s'=>Q ⟨T,[]⟩ s') E s):wpAny bj A (evalArgs f true args []) Q E s:=by
 match args,hp,h with
 |[],_,h=>exact wpAny_bind (wpAny_mono h (λT s' h'=>wpAny_bind (wpAny_pure (wpAny_holding (wpAny_bind (wpAny_pure (wpAny_bind (wpAny_pure (wpAny_pure h')))))))) λ_ _ x=>x)
 |(false,x)::rest,_,h=>exact Calls.evalArgs_plain h
 |(true,x)::rest,hp,_=>exact d7 hp
def Fw {x:Expr}{m:Str}{t:Sem Value}(h:kX x=true):attributeBase x m env t=t:=by cases x<;>first|rfl|exact aS h
end
section
variable{W:Wd} {n:Nat} {c:Cx W n} {x x' aI:X} {k k' aC:az} {lv:LV} {f:bp} {Z:LV->X->Kt} {r:LV×St}
def nH {A:Around}{s:Shared}{env:Env}{pos:Pos}{f:Value}{first:List Value}{as:List Expr}{Q:Value->Shared->Prop}(hp:(backTo pos (starEach as env)).any (·.1)=false)
  (hk:∀h,gx W h->∃k,(k=Keeper.frame\/k=Keeper.machine\/k=Keeper.boundFrame)/\Looks (Md W.w) h (keeperOf f) k)
  (h:wpAny (Md W.w) A (spliced (backTo pos (starEach as env))) (λus s₁=>gx W s₁.heap/\wpAny (Md W.w) A (PySem.call f (first++us)) Q aA s₁) aA s):
  wpAny (Md W.w) A (callWith pos f first (backTo pos (starEach as env)) []) Q aA s:=
 callWith_of (P:=λh=>gx W h) (by refine hp.symm▸?_;rfl) hk (KV hp h)
def rz.fin {t:Sem Value}{σ':St}(h:rz W c.A k t lv σ')(p:Inv c aI aC)(a:aL c aI aC x k):wpAny (Md W.w) c.A t (λu s=>∃g l,aL c aI aC (x.at σ') ⟨g,l,s⟩/\Got W aC.top ⟨g,l,s⟩ lv u) aA k.s:=wpAny_mono h (λu s cG=>aM cG λg q=>⟨g,k.loc,⟨⟨q.go.tk a.inv.tk,λb o z=>q.go.le.I b o (a.inv.top b o z),q.rl,by have f:=a.inv.fr.go q.go q.loc (λ_ _ z=>z) λ_ _ z=>z;exact ⟨f.sc,f.ns,f.var,f.jx,f.dY,f.gX,f.inj⟩⟩,a.go.trans q.go (λ_ z _=>z.elim) λ_ z _=>z,a.own⟩,q.got.weak a.go.size⟩) λ_ _ x=>x
def zq {j:Nat}(h:t5 lv=some j):lv=.val (.obj j):=by
 induction lv with
 |val v=>cases v<;>first|(obtain rfl:=oj h;rfl)|exact aF h
 |_=>exact bD h
def zi {σ:St}{p:Nat×Str×List (Str×V)}(h:jC σ lv=some p):lv=.val (.obj p.1)/\σ.get p.1=some (.inst p.2.1 p.2.2):=by
 refine aH h λj H M=>?_;obtain rfl:lv=.val (.obj j):=zq H;generalize hg:σ.get j=z_;induction z_ with
 |none=>replace M:=hg▸M;exact aF M
 |some o=>
  rw [hg] at M
  induction o with
  |inst c fs=>(injection M with q_;subst q_);exact ⟨rfl,hg⟩
  |_=>exact bD M
def Ao {σ:St}(rl:Rl W σ k){j:Nat}{c:Str}{fs:List (Str×V)}{u:Value}(h:σ.get j=some (.inst c fs))(l:VR W.w k.g (.obj j) u):
  ∃a d m,u=.ref a/\k.g.ρ[j]?=some (a,d)/\(∃o,k.g.I a=some o)/\pd W k.h c a d m/\wY W k.g fs m:=by
 refine bc λcG=>?_;(refine aG l.tM λa d bu H=>?_;subst bu);obtain ⟨a',d',M,i,m,ir,fr⟩:=rl.obj _ _ h;(injection H.symm.trans M with q_;injection q_ with q_ dq;subst q_;subst dq);exact cG (mK a d m rfl H i ir fr)
def VR.handed {w:World}{g:Gh}{v:V}{u:Value}(x:VR w g v u):handedIn u=true:=by cases x<;>rfl
def Qj (F:bM W n f)(au:gh W){e:Expr}{m:Str}{pos:Pos}(Y:kX e=true)(h:AH f e m x Z=some r):∃lv x',Z lv x'=some r/\cZ W n (.Attribute e m pos) x lv x':=by
 refine bc λeV=>aG (dD  F h) λa x₁ h E=>jS h λp v hi hv sy=>ay (bK hv) λhf hv=>ay (zi hi) λe1 hg=>?_;(injection e1 with q_;subst q_);refine eV (ax (.val v) x₁ sy (λc k pr=>?_));rw [arm_eval_Attribute,Fw Y];refine wpAny_bind ((E c k pr).use λu k₁ q=>wpAny_bind (wpAny_standAt (wpAny_bind (wpAny_holding ?_))));(refine mI (Ao q.1.inv.rl hg q.2) λa d m' CF _ _ ir fr=>?_;subst CF);refine (fr m).elim (λpS=>ay pS λz _=>?_) (λmT=>aw mT λv' u' z1 z2 z3=>?_)
 ·exact lx (hv.symm.trans z)
 ·obtain rfl:=oj (hv.symm.trans z1);exact au.cls.load hf q.1.inv.g_ ir z2 z3.handed λt ht=>wpAny_bind (wpAny_letTemporaryGo (wpAny_pure (q.1.fin z3 t ht)))
def ER {i:Nat×Nat}(h:∃o fd,W.eF (W.eI i)=some o/\o.data=.func fd):∀hp,gx W hp->∃k,(k=Keeper.frame\/k=Keeper.machine\/k=Keeper.boundFrame)/\Looks (Md W.w) hp (keeperOf (.ref (W.eI i))) k:=λhp gY=>by exact aG h λo fd q1 q2=>af .frame (.inl rfl) ((Looks.ld (gY _ _ q1)).andThen (q2.symm▸(.now)))
def RZ (F:bM W n f)(aK:eG f)(au:gh W){as:List Expr}(h:xH f as x Z=some r):∃lv x',Z lv x'=some r/\∀{c:Cx W n}{pos:Pos}{k:az},Inv c x k->wpAny (Md W.w) c.A (callWith pos (.builtin "len") [] (backTo pos (starEach as c.env)) []) (λu s=>∃g l,aL c x k x' ⟨g,l,s⟩/\Got W k.top ⟨g,l,s⟩ lv u) aA k.s:=by
 refine aH h λa ha sy=>?_;obtain rfl:=ja ha;clear h;have ns:∀y q,a≠.Starred y q:=by rintro y q rfl;have:kF f (.Starred y q) x (λlv x=>(kW (hG lv x.st)).bind λv=>Z (.val v) x)=none:=aK.star ..;exact aF (this.symm.trans sy)
 refine aG (uO  F sy) λlv x₁ h E=>aH h λv hv h=>?_;refine ax (.val v) x₁ h (λ{c pos k} p=>nH (by rw [v_ ns];rfl) (λ_ _=>(af .machine (.inr (.inl rfl)) .now)) (wpAny_items_cons ((E c k p).use λu k₁ q=>wpAny_items_nil ⟨q.1.inv.g_,?_⟩) (v_ ns)));exact bc λuR=>aq q.2 λb l _=>aM (s8 q.1.inv.rl l) λb' l'=>uR ((au.len hv q.1.inv.g_ q.1.inv.ag l').fin p q.1)
def Oz (F:bM W n f)(aK:eG f)(au:gh W){call:hU}{new:km}(hC:mq W n call)(hN:ph W n new){m:Str}{as:List Expr}{np pos:Pos}(h:Ak call new f m as x Z=some r):∃lv x',Z lv x'=some r/\cZ W n (.Call (.Name m np) as [] pos) x lv x':=by
 refine aH h λg hg h=>?_;have step:∀{lv:LV}{x':X},(∀{c:Cx W n}{k:az}{u:Value},Inv c x k->GR W u g->wpAny (Md W.w) c.A (callWith pos u [] (backTo pos (starEach as c.env)) []) (λu s=>∃g l,aL c x k x' ⟨g,l,s⟩/\Got W k.top ⟨g,l,s⟩ lv u) aA k.s)->cZ W n (.Call (.Name m np) as [] pos) x lv x':=λq c k p=>by exact ay (au.top.load p hg) λuU hd=>aq uU λu gr ld=>wpAny_Call_NameR (wpAny_Name (ld (q p gr)) hd)
 induction g with
 |const v=>exact aF h
 |fn i=>obtain ⟨T,x₁,h,E,hp⟩:=mx  F aK h;obtain ⟨r',H,h⟩:=oB h;exact ax r'.1 _ h (step λ{c k u} p gr=>by obtain rfl:u=.ref (W.eI i):=gr;exact nH (hp c.env pos) (ER (hC.keep H)) ((E c pos _ p).use λus k₁ q=>⟨q.1.inv.g_,(hC.run H c.rm q.1.inv.tk q.1.inv.top q.1.inv.rl q.2).fin p q.1⟩))
 |cls cn=>obtain ⟨T,x₁,h,E,hp⟩:=mx  F aK h;obtain ⟨r',H,h⟩:=oB h;exact ax _ _ h (step λ{c k u} p gr=>by obtain rfl:u=.ref (W.eE cn):=gr;exact nH (hp c.env pos) (λhh gY=>(af .machine (.inr (.inl rfl)) (hN.keep H hh gY))) ((E c pos _ p).use λus k₁ q=>⟨q.1.inv.g_,(hN.run H c.rm q.1.inv.tk q.1.inv.top q.1.inv.rl q.2).fin p q.1⟩))
 |blt b=>
  have h:cond (xI b) (xH f as x Z) (iv f as x λT x=>(blt b T).bind λlv=>Z lv x)=some r:=h;generalize hl:xI b=z_;induction z_ with
  |true=>
   replace h:=hl▸h;refine aG (RZ  F aK au h) λlv x' sy E=>?_;obtain rfl:b=.len:=by cases b<;>first|rfl|exact aS hl
   exact ax lv x' sy (step λ{c k u} p gr=>by obtain rfl:u=.builtin "len":=gr;exact E p)
  |false=>replace h:=hl▸h;refine bc λUc=>aw (mx  F aK h) λT x₁ h E hp=>aH h λlv H h=>Uc ?_;exact ax lv x₁ h (step λ{c k u} p gr=>by obtain rfl:u=uN b:=gr;exact nH (hp c.env pos) (λhh gY=>(af .machine (.inr (.inl rfl)) (by cases b<;>exact .now))) ((E c pos _ p).use λus k₁ q=>⟨q.1.inv.g_,(au.blt H c.units c.rm.handled q.1.inv.g_ q.1.inv.ag q.2).fin p q.1⟩))
end
def wd (l:List (Nat×O))(j:Nat)(o:O)(i:Nat):(uH l j o).lookup i=if i=j then some o else l.lookup i:=by
 induction l with
 |nil=>
  show List.lookup i [(j,o)]=_;rw [List.lookup_cons];by_cases h:i=j
  ·rw [if_pos h,bI h]
  ·rw [if_neg h,bN h]
 |cons p r ih=>
  obtain ⟨z,w⟩:=p;show List.lookup i (if z==j then(z,o)::r else(z,w)::uH r j o)=_;by_cases hz:z=j
  ·rw [if_pos (bI hz),List.lookup_cons,List.lookup_cons];by_cases h:i=j
   ·rw [if_pos h,bI (h.trans hz.symm)]
   ·rw [if_neg h,bN (hz▸h)]
  ·rw [if_neg (by rw [beq_iff_eq];exact hz),List.lookup_cons,List.lookup_cons,ih];by_cases h:i=z
   ·subst h;rw [beq_self_eq_true,if_neg hz,if_neg hz]
   ·rw [bN h]
def L0 {σ:St}{j:Nat}{o:O}:(σ.set j o).get j=some o:=(wd ..).trans (if_pos rfl)
def Eu {σ:St}{i j:Nat}{o:O}(h:i≠j):(σ.set j o).get i=σ.get i:=(wd ..).trans (if_neg h)
def KW {σ:St}{o:O}:(σ.alloc o).get σ.next=some o:=(wd ..).trans (if_pos rfl)
def D4 {σ:St}{i:Nat}{o:O}(h:i≠σ.next):(σ.alloc o).get i=σ.get i:=(wd ..).trans (if_neg h)
section
variable{W:Wd} {n:Nat} {c:Cx W n} {x x' aI:X} {k k' aC:az} {lv:LV} {f:bp} {Z:LV->X->Kt} {r:LV×St}
def Ud {ρ:List (Addr×Addr)}(h:ρ.Pairwise λx y=>x.2≠y.2){i j:Nat}{x y:Addr×Addr}(hi:ρ[i]?=some x)(hj:ρ[j]?=some y)(ng:i≠j):x.2≠y.2:=by
 refine aM (dR hi) λli ei=>?_;obtain ⟨lj,ej⟩:=dR hj;refine ei▸ej▸?_;rcases Nat.lt_or_gt_of_ne ng with q|q
 ·exact List.pairwise_iff_getElem.mp h i j li lj q
 ·exact Ne.symm (List.pairwise_iff_getElem.mp h j i lj li q)
def Rl.iQ {σ:St}(rl:Rl W σ k){j:Nat}{a d:Addr}{o o':O}{h':Heap}{t:Nat}(hj:k.g.ρ[j]?=some (a,d))(hg:σ.get j=some o)(hs:Heap.SameBut d k.h h')(q:OR W k.g h' a d o')(ht:k.s.toks<=t):uf W k (.val .none) (σ.set j o') .none ⟨k.g,k.loc,{k.s with heap:=h',toks:=t}⟩:=by
 have I3:k.g.In h':=λb y e=>(hs.2 b λz=>by replace e:=((rl.d8 _ (dU hj)).1:k.g.I d=none)▸z▸e;exact aF e).trans (rl.ag b y e);refine ⟨⟨I3,λi y hy=>?_,rl.sep,rl.new,λz hz=>⟨(rl.d8 z hz).1,Nat.lt_of_lt_of_eq (rl.d8 z hz).2 hs.1.symm⟩,λi y hy=>?_⟩,⟨(ax _ _ ht rfl),Nat.le_of_eq hs.1.symm,.refl _,λ_ _ e=>.inl e,λ_ h=>.inl h,λb o e hn=>.inl ((hs.2 b λq=>hn _ (dU hj) q.symm).trans e)⟩,rfl,.val .none⟩
 ·by_cases h:i=j
  ·subst h;(injection L0.symm.trans hy with q_;subst q_);exact ⟨a,d,hj,q⟩
  ·replace hy:=(Eu h)▸hy;exact aG (rl.obj i y hy) λa' d' H M=>ax a' d' H (M.mono (.refl _) I3 (λo e=>(hs.2 d' (Ud rl.sep H hj h)).trans e) rl.ag)
 ·by_cases h:i=j
  ·subst h;exact rl.top _ _ hg
  ·exact rl.top i y ((Eu h).symm.trans hy)
def DW {u:Addr}{xs:List V}{s:Shared}{A:Around}{pl:Sem Bool}{Q:Value×List Value->Shared->Prop}(hl:∃T m,s.heap.get? u=some (lobj T m))(h:Q (.builtin "list.append",[.ref u]) s):wpAny (Md W.w) A (getMethod (.ref u) eL pl) Q aA s:=by refine c9 hl λT m hl=>?_;exact getMethod_builtin (af _ hl rfl) PySem.F.plainAttrs_list PySem.F.slot_list_append PySem.F.type_list_append (λa e=>by(injection e with q_;subst q_);exact ⟨_,hl,rfl⟩) h
def getMethod_dict {u:Addr}{S:List (V×V)}{g:Gh}{s:Shared}{A:Around}{pl:Sem Bool}{Q:Value×List Value->Shared->Prop}(hl:DR W.w g s.heap u S)(h:Q (.builtin "dict.get",[.ref u]) s):wpAny (Md W.w) A (getMethod (.ref u) pG pl) Q aA s:=by refine fA hl λo ds ep H bu _=>ay bu λM _=>?_;exact getMethod_builtin (af _ H M.1) PySem.F.plainAttrs_dict PySem.F.slot_dict_get PySem.F.type_dict_get (λa e=>by(injection e with q_;subst q_);exact ⟨_,H,M.2.1⟩) h
def zj {A:Around}{s:Shared}{g:Gh}{l:Addr}{xs:List V}{v:V}{u:Value}(hl:fh W.w g s.heap l xs)(hv:VR W.w g v u)(hf:xs.length<=1048576){Q:Value->Shared->Prop}
  (hq:∀h',fh W.w g h' l (xs++[v])->Heap.SameBut l s.heap h'->Q .none {s with heap:=h'}):wpAny (Md W.w) A (PySem.call (.builtin "list.append") [.ref l,u]) Q aA s:=by
 refine aG hl λT m hl r=>wpAny_call_entry PySem.slot_list_append (af _ hl rfl) PySem.entry_list_append ?_ (PySem.args_list_append _ _);show wpAny _ _ (updateSeq l (·.push u)>>=λ_=>ret .none) _ _ s;refine aM (⟨_,rfl⟩:∃m',Obj.mapSeq (·.push u) (lobj T m)=lobj (T.push u) m') λm' e=>?_;have at':=Heap.get?_update_self (Obj.mapSeq (·.push u)) hl (by rw [e];rfl);rw [e] at at';have hsz:T.size<=sizeLine:=by refine j8.symm▸r.eD▸?_;exact nT ‹_› (nl rfl)
 exact wpAny_bind (wpAny_updateSeq hl rfl (wpAny_pure (af .none rfl (hq _ (ax _ m' at' (by refine Array.toList_push.symm▸?_;exact r.append (.cons hv .nil))) (Heap.SameBut.update ..)))))
def xr {A:Around}{s:Shared}{env:Env}{e:Expr}{m:Str}{apos pos:Pos}{as:List Expr}{Q:Value->Shared->Prop}(hg:(kX e&&decide (as.length<30)&&apos.endLine==pos.line)=true)(hp:(backTo pos (starEach as env)).any (·.1)=false)
  (h:wpAny (Md W.w) A (eval e env) (λu s₁=>wpAny (Md W.w) A (getMethod u m (do return(<-importBound e env).getD true)) (λff bO=>wpAny (Md W.w) A (callWith pos ff.1 ff.2 (backTo pos (starEach as env)) []) Q aA bO) aA s₁) aA s):
  wpAny (Md W.w) A (eval (.Call (.Attribute e m apos) as [] pos) env) Q aA s:=by
 rw [Bool.and_eq_true,Bool.and_eq_true,decide_eq_true_iff] at hg;refine ay hg λcG Ue=>ay cG λY hlen=>?_;rw [arm_eval_Call,Fw Y];refine wpAny_bind (wpAny_mono h (λu s₁ gQ=>wpAny_bind (wpAny_standAt ?_)) λ_ _ e=>e);have Ug:methodCallForm (as.length+([]:List Keyword).length) (backTo pos (starEach as env)) (backToKw pos (keywordEach [] env))=true:=by
  delta methodCallForm;rw [Bool.and_eq_true,Bool.and_eq_true];refine ⟨⟨?_,rfl⟩,decide_eq_true_iff.mpr hlen⟩;rw [List.all_eq_true];intro y hy;generalize q:y.1=z_;induction z_ with
  |false=>rfl
  |true=>exact aS (hp.symm.trans (List.any_eq_true.mpr (af y hy q)))
 delta methodCall;refine Ug.symm▸?_;exact wpAny_bind (wpAny_holding (wpAny_mono gQ (λff bO pP=>wpAny_bind (wpAny_of_eq (by delta methodCallPos;simp [Ue]) pP)) λ_ _ e=>e))
def ee.call {A:Around}{t:Sem Value}{σ:St}(h:ee W A k t lv)(rl:Rl W σ k):rz W A k t lv σ:=wpAny_mono h (λu s eV=>aM eV λg q=>⟨g,rl.ext q.1.le q.1.ag q.1.lU (λz hz=>q.1.quiet _ (rl.d8 z hz).2 (rl.d8 z hz).1) q.1.ext.size λz _ o w=>q.1.ext.kept _ o w,q.1.go,q.1.loc,by refine aq q.2 λb l f=>?_;exact (af b l (λo=>⟨⟨(f o).2,λz hz e=>absurd (rl.d8 z (q.1.lU▸hz)).2 (by refine e.symm▸?_;exact gW (f o).1)⟩,(f o).1⟩))⟩) λ_ _ x=>x
noncomputable def yG (m:Str):String:=cond (m==pG) "dict.get" "list.append"
def Gl:yG pG="dict.get":=by decide+kernel
def Ew:yG eL="list.append":=by decide+kernel
def M1 {A:Around}{a:LV}{u:Value}{b:Addr}{m:Str}(ag:k.g.In k.h)(l:LR W k.g k.h (some u) b a)(h:AI a m=true){pl:Sem Bool}{Q:Value×List Value->Shared->Prop}(hq:Q (.builtin (yG m),[u]) k.s):wpAny (Md W.w) A (getMethod u m pl) Q aA k.s:=by
 have dict:∀{S:List (V×V)}{d:Addr},DR W.w k.g k.h d S->(m==pG)=true->u=.ref d->wpAny (Md W.w) A (getMethod u m pl) Q aA k.s:=λq e hu=>by obtain rfl:=bE e;subst hu;exact getMethod_dict q (Gl▸hq)
 induction a with
 |unset=>exact aS h
 |ml xs=>refine bc λiw=>?_;obtain rfl:=bE h;obtain rfl:=oj l.1;obtain ⟨_,T,i,q,_⟩:=l;exact iw (DW (xs:=xs) (dB T i q) (Ew▸hq))
 |md S=>exact dict l.2 h (oj l.1)
 |val v=>
  cases v with
  |dict S=>refine aq (l.fu.qN ag) λd e q=>?_;exact dict q h e
  |_=>exact kH h
def Ec {σ:St}{p:Nat×List V}(h:listOf σ lv=some p):lv=.val (.obj p.1)/\σ.get p.1=some (.list p.2):=by
 refine aH h λj H M=>?_;obtain rfl:lv=.val (.obj j):=zq H;generalize hg:σ.get j=z_;induction z_ with
 |none=>replace M:=hg▸M;exact aF M
 |some o=>
  rw [hg] at M
  induction o with
  |list c=>(injection M with q_;subst q_);exact ⟨rfl,hg⟩
  |_=>exact bD M
def L2 (au:gh W){A:Around}(hu:A.units+250<cLine){a:LV}{m:Str}{T:List V}{σ:St}{u:Value}{us:List Value}{b:Addr}(rl:Rl W σ k)(h:jg a m T σ=some r)(l:LR W k.g k.h (some u) b a)(hs:aO W.w k.g T us):
  rz W A k (PySem.call (.builtin (yG m)) (u::us)) r.1 r.2:=by
 delta jg at h;generalize hl:listOf σ a=z_;induction z_ with
 |some p=>
  rw [hl] at h;refine bc λCG=>bc λuW=>?_;(refine ay (Ec hl) λjt hg=>?_;subst jt);refine fS h λv H M h5=>bc λWJ=>bc λkJ=>?_;obtain rfl:=oj h5;obtain rfl:=ja H;obtain ⟨h3,h4⟩:=iD M;obtain rfl:=bE h3;(refine aG l.fu.tM λad d pM z1=>?_;subst pM);(refine aw (rl.obj _ _ hg) λa' d' z2 mV q=>?_;subst mV);(injection z1.symm.trans z2 with q_;injection q_ with q_ dq;subst q_;subst dq);(refine aw hs.cons_of λv' us CH hv hn=>?_;subst CH)
  cases hn.nil_of
  exact kJ (WJ (uW (CG (Ew.symm▸(zj q hv (fit_le h4) λh' q' sb=>⟨k.g,rl.iQ (ht:=(nR _)) z1 hg sb ⟨rfl,q'⟩⟩)))))
 |none=>
  replace h:=hl▸h;refine aH h λv H h=>?_;(injection h with q_;subst q_);obtain ⟨b',l'⟩:=s8 rl l;refine ee.call (bc λug=>aH H λS hd H=>ay (bK H) λe H=>?_) rl;obtain rfl:=bE e;refine jS H λp y M h3 h5=>?_;(injection h5 with q_;subst q_);obtain rfl:=wJ M;obtain ⟨v1,us,rfl,X5,hs⟩:=hs.cons_of;obtain ⟨v2,us,rfl,X6,hs⟩:=hs.cons_of
  cases hs.nil_of
  (refine bW (zv h3) λd z1 z2 Uh=>?_;subst Uh);have dr:∃ad,u=.ref ad/\DR W.w k.g k.h ad S:=by
   generalize Y:hG a σ=z_;induction z_ with
   |unset=>replace hd:=Y▸hd;exact aF hd
   |ml _=>rw [Y] at hd;exact aF hd
   |md kI=>rw [Y] at hd l';cases hd;exact af _ (oj l'.1) l'.2
   |val w=>rw [Y] at hd l';obtain rfl:=zo hd;exact l'.fu.qN rl.ag
  obtain ⟨ad,rfl,dr⟩:=dr;exact ug (Gl.symm▸((dr.road rl.ag hu X5 z1 z2).get X6 λt w ht z=>af k.g (.dZ rl.ag (.tok t ht)) (.val z)))
def nu {α:Type}{bj:Model}{A:Around}{t:Sem α}{s:Shared}{P Q:α->Shared->Prop}(h:wpAny bj A t P aA s)(f:∀a s',s.toks<=s'.toks->s.heap.objs.size<=s'.heap.objs.size->P a s'->Q a s'):wpAny bj A t Q aA s:=wpAny_mono (wpAny_toks (wk h)) (λa s' q=>f a s' q.1 q.2.1 q.2.2) λ_ _ q=>q.2.2
def DY {e:Expr}{s:Str}(h:zL e=some s):∃kd pos,e=.Constant (.str s) kd pos:=by
 cases e with
 |Constant c kd pos=>cases c<;>first|(obtain rfl:=oj h;exact (dB _ _ rfl))|exact aF h
 |_=>exact bD h
def ES (au:gh W){as:List Expr}{m:Str}{U:Str×Str}{s:Str}{v:V}{pos:Pos}{t:Tok}(hr:s6 m as=some U)(hv:qH s U=some v)(p:Inv c aI aC)(a:aL c aI aC x k):
  m=Fo/\(backTo pos (starEach as c.env)).any (·.1)=false/\wpAny (Md W.w) c.A (callWith pos (.builtin "str.replace") [.str s t] (backTo pos (starEach as c.env)) []) (λu s=>∃g l,aL c aI aC x ⟨g,l,s⟩/\Got W aC.top ⟨g,l,s⟩ (.val v) u) aA k.s:=by
 refine Ts hr λpe x1 x2 e M h3 h4 hr=>?_;obtain rfl:=oj hr;obtain rfl:=wJ M;refine c9 (DY h3) λZi p1 e1=>c9 (DY h4) λZj p2 e2=>?_;obtain ⟨pa,pb⟩:=pe;dsimp only at e1 e2;subst e1 e2;refine fS hv λcc h5 h6 hv=>?_;obtain rfl:=oj hv;obtain ⟨h7,h8⟩:=iD h6;have vG:x1=⟨#[cc]⟩:=by obtain ⟨l⟩:=x1;have:l.toList=[cc]:=ja h5;exact (Array.toList_inj.mp this).symm▸rfl
 have sA:x2=⟨#[]⟩:=by obtain ⟨l⟩:=x2;exact (show l=#[] from Array.isEmpty_iff.mp h7).symm▸rfl
 refine bx (bE e) rfl (nH rfl (λ_ _=>(af .machine (.inr (.inl rfl)) .now)) (wpAny_items_cons (wpAny_Constant_str (wpAny_items_cons (wpAny_Constant_str (wpAny_items_nil ⟨a.inv.g_,nu (P:=λu s'=>∃t' kk,u=.str (Txt.replace s x1 x2) t'/\s'={{k.s with toks:=k.s.toks+1+1} with toks:=kk}) (SC.replaceA (Nat.ne_of_gt a.inv.tk) (Nat.succ_ne_zero _) (Nat.ne_of_lt (Nat.lt_succ_self _)) ?_ (λt' kk=>(ax t' kk rfl rfl)) (au.top.booked _ a.inv.g_)) λu s' ht _ q=>?_⟩))))))
 ·subst sA;have:s.cps.size<=1048576:=fit_le h8;show s.cps.size+(s.cps.size+1)*0<=_;exact nT ‹_› (nl rfl)
 ·(refine aG q λt' kk Ui Uj=>?_;subst Ui;subst Uj);have e:Txt.replace s x1 x2=⟨(s.cps.toList.filter (· !=cc)).toArray⟩:=by
   have:=replace_strikes s cc;replace this:=sA.symm▸vG.symm▸this;rw [<-this]
  exact dB _ _ (a.tok kk (e▸.str _ t') (nT (lA _ 2) ht))
def OA (F:bM W n f)(aK:eG f)(au:gh W){call:hU}(hC:mq W n call){e:Expr}{m:Str}{as:List Expr}{apos pos:Pos}(hg:(kX e&&decide (as.length<30)&&apos.endLine==pos.line)=true)
  (h:Al call f e m as x Z=some r):∃lv x',Z lv x'=some r/\cZ W n (.Call (.Attribute e m apos) as [] pos) x lv x':=by
 refine aG (uO  F h) λa x₁ h E=>?_;generalize hi:jC x₁.st a=z_;induction z_ with
 |some p=>
  rw [hi] at h;(refine ay (zi hi) λUk X7=>?_;subst Uk);refine aH h λi hm h=>ay (bK hm) λhn hm=>aw (mx  F aK h) λT bF h Es hp=>aH h λr' H h=>ax r'.1 _ h (λc k pr=>xr hg (hp c.env pos) ((E c k pr).use λu k₁ q=>?_));(refine mI (Ao q.1.inv.rl X7 q.2.fu) λad d m' Ul _ _ ir fr=>?_;subst Ul);have Um:m' m=none:=by
   refine (fr m).elim (λUn=>ay Un λ_ z=>?_) (λUo=>aG Uo λv' u' z1 _=>?_)
   ·exact z
   ·replace hn:=z1▸hn;exact aS hn
  exact au.cls.mU hm q.1.inv.g_ ir Um (nH (hp c.env pos) (ER (hC.keep H)) ((Es c pos _ q.1.inv).use λus k₂ b8=>⟨b8.1.inv.g_,(hC.run H c.rm b8.1.inv.tk b8.1.inv.top b8.1.inv.rl (.cons (q.2.fu.mono b8.1.go.le) b8.2)).fin pr (q.1.trans b8.1)⟩))
 |none=>
  replace h:=hi▸h;generalize hr:s6 m as=z_;induction z_ with
  |some U=>
   replace h:=hr▸h;refine aH h λv H h'=>aH h' λs M yH=>bc λUq=>aH yH λw h3 h4=>?_;clear h h' yH;obtain rfl:=wg M;refine Uq (ax (.val w) x₁ h4 (λc k pr=>?_));(refine ef (ES (n:=n) (pos:=pos) (t:=0) au hr h3 pr (aL.refl pr)) λUr hp _=>?_;subst Ur);refine xr hg hp ((E c k pr).use λu k₁ q=>aq q.2 λb l _=>?_)
   induction a with
   |val w'=>obtain rfl:=oj H;obtain ⟨t,rfl⟩:=l.fu.j7;exact getMethod_builtin (typeIs_str k₁.s _ _) PySem.F.plainAttrs_str PySem.F.slot_str_replace PySem.F.type_str_replace (λa e=>rO e rfl) (ES au hr h3 pr q.1).2.2
   |_=>exact aF H
  |none=>
  rw [hr] at h;obtain ⟨ho,h⟩:=bK h;obtain ⟨T,bF,h,Es,hp⟩:=mx  F aK h;obtain ⟨r',H,h⟩:=oB h;refine ⟨r'.1,_,h,λc k pr=>xr hg (hp c.env pos) ((E c k pr).use λu k₁ q=>?_)⟩;refine bc λmW=>?_;obtain ⟨b,l,_⟩:=q.2;obtain ⟨b',l'⟩:=s8 q.1.inv.rl l;refine mW ?_;refine M1 q.1.inv.ag l' ho (nH (W:=W) (hp c.env pos) (λhh gY=>⟨.machine,.inr (.inl rfl),.now⟩) ((Es c pos _ q.1.inv).use λus k₂ b8=>⟨b8.1.inv.g_,?_⟩));obtain ⟨Y8,uY⟩:=q.2.later b8.1.go;exact (L2 au c.units b8.1.inv.rl H uY b8.2).fin pr (q.1.trans b8.1)
end
inductive q0 (w:World)(g:Gh)(S:List (V×V)):List (V×V)->List (Value×Value)->Prop
 |nil:q0 w g S S []
 |cons {acc kz:List (V×V)} {kv vv:V} {u v:Value} {U:List (Value×Value)}:VR w g kv u->VR w g vv v->gN acc kv vv=some kz->q0 w g S kz U->q0 w g S acc ((u,v)::U)
section
variable{W:Wd} {n:Nat} {c:Cx W n} {x x' aI:X} {k k' aC:az} {lv:LV} {f:bp} {Z:LV->X->Kt} {r:LV×St}
def DZ {A:Around}(hu:A.units+250<cLine){g:Gh}{d:Addr}{S acc:List (V×V)}{U:List (Value×Value)}(hd:g.I d=none)(r:q0 W.w g S acc U):
  ∀{s:Shared}{Q:PUnit->Shared->Prop},g.In s.heap->DR W.w g s.heap d acc->(∀h' t,s.toks<=t->DR W.w g h' d S->Heap.SameBut d s.heap h'->Q ⟨⟩ {s with heap:=h',toks:=t})->wpAny (Md W.w) A (storeAll d U) Q aA s:=by
 induction r with
 |nil=>intro s Q ag x hq;exact wpAny_pure (hq s.heap s.toks (nR _) x (.refl _ _))
 |cons a b e _ ih=>intro s Q ag x hq;(refine n9 (zw e) λdd H M h3 bu=>?_;subst bu);delta storeAll;rw [List.forIn_cons];refine wpAny_bind (wpAny_bind (((x.road ag hu a H M).put b h3 λh' t ht x' hs=>wpAny_pure ?_).2));exact ih (Q:=Q) (λb o q=>(hs.2 b (by rintro rfl;replace q:=hd▸q;exact aF q)).trans (ag b o q)) x' λyH X8 WK X9 WL=>hq yH X8 (nT ht WK) X9 (hs.trans WL)
def OB (F:bM W n f):∀{G:List (Option Expr)}{T:List Expr}{acc:List (V×V)}{x:X}{Z:List (V×V)->X->Kt},tK f G T acc x Z=some r->
  ∃S x',Z S x'=some r/\(G.all (·.isSome)=true/\G.length=T.length)/\∀(c:Cx W n) pos k,Inv c x k->WP c (evalPairs (pairTrees G T c.env pos)) (λU k'=>aL c x k x' k'/\q0 W.w k'.g S acc U) k:=by
 intro bz
 induction bz with
 |nil=>
  intro aJ aU aW bf bB
  cases aJ with
  |nil=>exact aD aU aW bB ⟨rfl,rfl⟩ (λc pos k p=>pairTrees_nil_walk (ax k.g k.loc (.refl p) .nil))
  |cons cb bU=>exact aF bB
 |cons bH bS ak=>
  intro aJ aU aW bf bB
  cases aJ with
  |nil=>exact aF bB
  |cons kA lJ=>refine bc λcx=>?_;(refine aH bB λbH jw bB=>?_;subst jw);exact aG (dD  F bB) λkv x₁ bB eW=>aG (dD  F bB) λvv bF bB eX=>aH bB λkz h3 bB=>aw (ak bB) λS x' bB dK pR=>ay dK λs1 s2=>cx (aD S x' bB ⟨s1,congrArg (·+1) s2⟩ (λc pos k p=>pairTrees_cons_walk ((eW c k p).use λu k₁ cA=>(eX c _ cA.1.inv).use λI0 k₂ b8=>(pR c pos _ b8.1.inv).use λU rS kx=>ax rS.g rS.loc ((cA.1.trans b8.1).trans kx.1) (.cons ((cA.2.mono b8.1.go.le).mono kx.1.go.le) (b8.2.mono kx.1.go.le) h3 kx.2))))
def newDict (au:Tp W)(p:Inv c x k):DR W.w k.g (k.h.push {cls:=.type "dict",data:=.dict #[]}) k.top []:=by refine gf _ (#[]) 0 (eR rfl) (eQ (bx rfl rfl rfl) rfl (bX ([]) rfl List.nodup_nil (λ_ h=>cj h)) ?_) .nil;have:3<k.top:=au.size _ p.g_;rw [beq_eq_false_iff_ne];exact iV this rfl
def Qk (F:bM W n f)(au:Tp W){G:List (Option Expr)}{T:List Expr}{pos:Pos}(hlen:G.length<=15)(h:(tK f G T [] x λS x=>Z (.md S) x)=some r):∃lv x',Z lv x'=some r/\cZ W n (.Dict G T pos) x lv x':=by
 induction G with
 |nil=>
  induction T with
  |cons _ _=>exact aF h
  |nil=>exact ax _ x h (λc k p=>wpAny_Dict_empty (dB _ _ ((aL.refl p).leaf p (.dZ p.ag (.push _):Lf k ⟨k.g,k.loc,{k.s with heap:=k.h.push {cls:=.type "dict",data:=.dict #[]}}⟩) (af k.top ⟨rfl,newDict au p⟩ (λ_=>⟨nR _,p.ag.none (nR _)⟩)))))
 |cons e G=>
  refine aw (OB  F h) λS x' h kn E=>ay kn λs1 s2=>ax _ x' h (λc k p=>wpAny_Dict_any s1 s2 (by simp) hlen ((E c pos _ (p.lf (.dZ p.ag (.push _):Lf k ⟨k.g,k.loc,{k.s with heap:=k.h.push {cls:=.type "dict",data:=.dict #[]}}⟩))).use λU k₁ q=>?_));have kB:=q.1;have my:=(p.my (nR _) (p.ag.none (nR _)) rfl).go (k:=⟨k.g,k.loc,{k.s with heap:=k.h.push {cls:=.type "dict",data:=.dict #[]}}⟩) (by rw [Heap.size_push];exact Nat.lt_succ_self _:k.top<(k.h.push {cls:=.type "dict",data:=.dict #[]}).objs.size) kB.go λw=>p.jU (nR k.top) (.inr (.inr w))
  refine DZ c.units my.1 q.2 kB.inv.ag ((newDict au p).mono kB.go.le λo w=>(kB.go.kept _ o w λz hz=>Nat.ne_of_lt (p.rl.d8 z hz).2).resolve_right id:DR W.w k₁.g k₁.h k.top []) λh' t ht d' hs=>⟨k₁.g,k₁.loc,⟨⟨(.mR (ht:=(by assumption)) hs rfl:Go bP (·=k.top) k₁ ⟨k₁.g,k₁.loc,{k₁.s with heap:=h',toks:=t}⟩).tk kB.inv.tk,kB.inv.top,kB.inv.rl.mR hs my,kB.inv.fr.go (.mR (ht:=(by assumption)) hs rfl:Go bP (·=k.top) k₁ ⟨k₁.g,k₁.loc,{k₁.s with heap:=h',toks:=t}⟩) rfl (λ_ _ w=>w) (λb w e=>p.jU (nR k.top) (e▸kQ w kB.own))⟩,?_,kB.own⟩,k.top,⟨rfl,d'⟩,λ_=>⟨my,nR _⟩⟩;exact (((.dZ p.ag (.push _):Lf k ⟨k.g,k.loc,{k.s with heap:=k.h.push {cls:=.type "dict",data:=.dict #[]}}⟩).go.of0 (R:=bP)).trans kB.go (λ_ w _=>w) λ_ w _=>w).trans (.mR (ht:=(by assumption)) hs rfl:Go bP (·=k.top) k₁ ⟨k₁.g,k₁.loc,{k₁.s with heap:=h',toks:=t}⟩) (λ_ w _=>w.elim) λb w hb=>absurd hb (by refine w.symm▸?_;exact Nat.lt_irrefl _)
end
def Kp {S:List Expr}{env:Env}(h:∀e∈S,∃m p,e=.Name m p):(assignEach S env).findIdx? (·.1)=none/\(assignEach S env).length=S.length/\(assignEach S env).map (·.2)=S.map λe=>assign e env:=by
 induction S with
 |nil=>exact bx rfl rfl rfl
 |cons a S ih=>(refine c9 (h _ mS) λm p cx=>?_;subst cx);refine ef (ih λe he=>h e (aT _ he)) λH M h3=>bx ?_ (congrArg (·+1) M) (congrArg (_::·) h3);show((false,assign (.Name m p) env)::assignEach S env).findIdx? (·.1)=none;rw [List.findIdx?_cons,H];rfl
def qw {e:Expr}{m:Str}(h:nameOf e=some m):∃p,e=.Name m p:=by
 cases e with
 |Name y p=>obtain rfl:=oj h;exact eg p rfl
 |_=>exact bD h
def D5:∀{S:List Expr}{T:List V}{bs:List (Str×V)},xl S T=some bs->(∀e∈S,∃m p,e=.Name m p)/\S.length=T.length/\bs.map (·.1)=S.filterMap nameOf:=by
 intro bz
 induction bz with
 |nil=>
  intro aJ aU aW
  cases aJ with
  |nil=>obtain rfl:=oj aW;exact bx (λ_ aW=>cj aW) rfl rfl
  |cons bH bS=>exact aF aW
 |cons bf bB ak=>
  intro aJ aU aW
  cases aJ with
  |nil=>exact aF aW
  |cons cb bU=>
   refine jS aW λm r H M aW=>?_;obtain rfl:=oj aW;refine ef (ak M) λa b d=>bx (λe' he=>?_) (congrArg (·+1) b) (by rw [List.filterMap_cons,H,List.map_cons,d]);rcases mE he with rfl|he
   ·obtain ⟨p,q⟩:=qw H;exact dB m p q
   ·exact a e' he
section
variable{W:Wd} {n:Nat} {c:Cx W n} {x x' aI:X} {k k' aC:az}
def Kq {A:Around}{s:Shared}{env:Env}{elts:List Expr}{x1:Nat}{pos:Pos}{t:Addr}{bA:Array Value}{Q:Unit->Shared->Prop}(hh:A.handled=none)(ht:IsTup s.heap t bA)
  (hn:(assignEach elts env).length=bA.size) (Us:(assignEach elts env).findIdx? (·.1)=none)
  (h:∀s',Ext s s'->wpAny (Md W.w) A (assignInOrder ((assignEach elts env).map (·.2)) bA.toList) Q aA s'):wpAny (Md W.w) A (assign (.Tuple elts x1 pos) env (.ref t)) Q aA s:=by
 refine wpAny_bind (wpAny_standAt ?_);delta unpack;refine hn.symm▸Us.symm▸(wpAny_bind (wpAny_holding (wpAny_mono (wk (wpAny_unpackItems_tuple (Q:=λl s'=>l=bA.toList/\∃h',s'={s with heap:=h'}/\Heap.ExtBut s.heap.objs.size s.heap h') hh ht λh' hs=>⟨rfl,h',rfl,hs⟩)) (λl s' ⟨hs,e1,h',e2,Y⟩=>?_) λ_ _ x=>x.2)));subst e1 e2;exact h _ ⟨(ax _ _ (nR _) rfl),hs,λb o q=>Y b o (Nat.ne_of_lt (Heap.lt_size q)) q⟩
structure Bd (c:Cx W n)(x:X)(k:az)(x':X)(k':az):Prop where
 inv:Inv c x' k'
 le:k.g.Le k'.g
 go:Go bP (qc c) k k'
 own:∀a,bR c.env x' k' a->bR c.env x k a
def Bd.trans {x₁ bF:X}{k₁ k₂:az}(a:Bd c x k x₁ k₁)(b:Bd c x₁ k₁ bF k₂):Bd c x k bF k₂:=⟨b.inv,a.le.trans b.le,a.go.trans b.go (λ_ q _=>q) λ_ q _=>q,λz q=>a.own z (b.own z q)⟩
def Gm {m:Str}{q:Pos}{v:V}{u:Value}(p:Inv c x k)(Y:x.has m=true)(hv:VR W.w k.g v u):wpAny (Md W.w) c.A (assign (.Name m q) c.env u) (λ_ s=>∃g l,Bd c x k (x.put m (.val v)) ⟨g,l,s⟩) aA k.s:=wpAny_assign_Name ((p.store Y (b:=0) (lv:=.val v) (af u rfl hv) λh=>aS h).use λ_ k' z=>⟨k'.g,k'.loc,z.1,by refine z.2.1.symm▸?_;exact .refl _,z.2.2.1,λa w=>(z.2.2.2 a w).resolve_right λr=>aS r.1⟩)
def Ql {y z:Str}{lv:LV}(h:x.has z=true):(x.put y lv).has z=true:=by
 delta X.has at h⊢;rw [Bool.and_eq_true] at h⊢;refine ⟨h.1,?_⟩;by_cases q:z=y
 ·subst q;rw [nQ];rfl
 ·rw [k5 q];exact h.2
def OC:∀{S:List Expr}{T:List V}{us:List Value}{bs:List (Str×V)}{x:X}{k:az},xl S T=some bs->x.hasAll bs=true->aO W.w k.g T us->Inv c x k->
  wpAny (Md W.w) c.A (assignInOrder (S.map λe=>assign e c.env) us) (λ_ s=>∃g l,Bd c x k (x.h_ bs) ⟨g,l,s⟩) aA k.s:=by
 intro bz
 induction bz with
 |nil=>
  intro aJ aU aW bf bB bH bS cb bU
  cases aJ with
  |nil=>
   obtain rfl:=oj bH
   cases cb.nil_of
   exact wpAny_pure ⟨bB.g,bB.loc,bU,.refl _,.refl,λ_ q=>q⟩
  |cons kC oi=>exact aF bH
 |cons kA lJ ak=>
  intro aJ aU aW bf bB bH bS cb bU
  cases aJ with
  |nil=>exact aF bH
  |cons uZ u6=>refine jS bH λm r H M bH=>?_;obtain rfl:=oj bH;obtain ⟨q,rfl⟩:=qw H;(refine aw cb.cons_of λu aU jt v1 v2=>?_;subst jt);delta X.hasAll at bS;rw [List.all_cons,Bool.and_eq_true] at bS;exact wpAny_bind (wpAny_holding (wpAny_mono (Gm bU bS.1 v1) (λ_ s WM=>c9 WM λg l b=>wpAny_mono (ak M (List.all_eq_true.mpr λz hz=>Ql (aE bS.2 z hz)) (v2.mono b.le) b.inv) (λ_ s uh=>c9 uh λg l b'=>(dB g l (b.trans b'))) λ_ _ bf=>bf) λ_ _ bf=>bf))
def zy {bs:List (Str×V)}{tg:Expr}{v:V}{u:Value}(p:Inv c x k)(hb:j9 tg v=some bs)(hh:x.hasAll bs=true)(hv:VR W.w k.g v u):
  wpAny (Md W.w) c.A (assign tg c.env u) (λ_ s=>∃g l,Bd c x k (x.h_ bs) ⟨g,l,s⟩) aA k.s:=by
 cases tg with
 |Name m q=>obtain rfl:=oj hb;delta X.hasAll at hh;rw [List.all_cons,Bool.and_eq_true] at hh;exact Gm p hh.1 hv
 |Tuple S j q=>refine bc λuc=>aH hb λT H hb=>?_;obtain rfl:=Ep H;refine ef (D5 hb) λb1 b2 b3=>ef (Kp (env:=c.env) b1) λf1 f2 f3=>?_;(refine aw (hv.qZ p.ag) λt Zk WN ht hr=>?_;subst WN);refine uc (Kq c.rm.handled ht (f2.symm▸b2.symm▸hr.eD.symm▸rfl) f1 λs₁ e=>f3.symm▸?_);have l:Lf k ⟨k.g,k.loc,s₁⟩:=.dZ p.ag e;exact wpAny_mono (OC (k:=⟨k.g,k.loc,s₁⟩) hb hh hr (p.lf l)) (λ_ s ud=>c9 ud λg l' b=>⟨g,l',b.inv,b.le,(l.go.of0 (R:=qc c)).trans b.go (λ_ q _=>q) λ_ q _=>q,b.own⟩) λ_ _ x=>x
 |_=>exact bD hb
end
section
variable{W:Wd} {A:Around} {R:Result->Shared->Prop} {s:Shared}
noncomputable abbrev ny (ifs:List Expr)(env:Env)(b:Bool):Sem Bool:=forIn ifs b λc r=>if r=true then do let ok<-isTrue c env (eval c env);pure (ForInStep.yield ok) else pure (ForInStep.yield r)
def KX {elt target iter:Expr}{ifs:List Expr}{scope:Scope}{pos:Pos}{it acc:Value}{env:Env}(az:Nat->Shared->Prop)
  (turn:∀n s,az n s->wpAny (Md W.w) A (pyNext it) (λr s₁=>match r with
   |none=>R (.ok .next) s₁
   |some v=>wpAny (Md W.w) A (letOwnedTupleGo target it v) (λ_ mA=>wpAny (Md W.w) A (assign target env v) (λ_ bO=>
     wpAny (Md W.w) A (ny ifs env true) (λok cR=>
      if ok=true then wpAny (Md W.w) A (eval elt env) (λx ia=>wpAny (Md W.w) A (call (.builtin "list.append") [acc,x]) (λ_ pQ=>∃m,m<n/\az m pQ) aA ia) aA cR
      else∃m,m<n/\az m cR) aA bO) aA mA) aA s₁) aA s)
  (n:Nat) (h:az n s):codeAny (Md W.w) A (.compLoop (.ListComp elt [⟨target,iter,ifs,0⟩] scope pos) 0 it acc env) R s:=by
 refine codeAny_loop rfl az (λn s hK=>?_) n h;show wpAny _ A ((PySem.compTurn (.ListComp elt [⟨target,iter,ifs,0⟩] scope pos) 0 it acc env).onRaise (λx=>do noteFrame x env;theTreesLotGoes x)) _ _ s;refine wpAny_noted ?_;rw [compTurn_list];refine wpAny_bind (wpAny_standAt (wpAny_bind (wpAny_mono (turn n s hK) (λr s₁ gQ=>?_) λ_ _ f=>f.elim)))
 induction r with
 |none=>exact wpAny_pure gQ
 |some v=>
  refine wpAny_bind (wpAny_mono gQ (λ_ mA Ut=>wpAny_bind (wpAny_mono Ut (λ_ bO pP=>wpAny_bind (wpAny_mono pP (λok cR oh=>?_) λ_ _ f=>f.elim)) λ_ _ f=>f.elim)) λ_ _ f=>f.elim)
  induction ok with
  |false=>exact wpAny_pure ⟨rfl,oh⟩
  |true=>exact wpAny_bind (wpAny_bind (wpAny_mono oh (λx ia yd=>wpAny_bind (wpAny_mono yd (λ_ pQ CE=>wpAny_pure (wpAny_pure ⟨rfl,CE⟩)) λ_ _ f=>f.elim)) λ_ _ f=>f.elim))
def Lc {env:Env}{Q:Bool->Shared->Prop}(h:Q false s):∀ifs:List Expr,wpAny (Md W.w) A (ny ifs env false) Q aA s:=by
 intro bz
 induction bz with
 |nil=>exact wpAny_pure h
 |cons aJ aU ak=>show wpAny _ _ (forIn (aJ::aU) false _) _ _ _;rw [List.forIn_cons];exact wpAny_bind (wpAny_pure (ak))
end
def DX {env:Env}{y:Str}:∀{names:List (Str×NameKind)},
  (names.map λ(n,k)=>if(k==NameKind.free&&env.scope.kind==.function&&env.kindOf n==some .cell) then(n,NameKind.cell) else(n,k)).lookup y=(names.lookup y).map λk=>if(k==NameKind.free&&env.scope.kind==.function&&env.kindOf y==some .cell) then .cell else k
 |[]=>rfl
 |(n,k)::r=>by
  show List.lookup y ((if(k==NameKind.free&&env.scope.kind==.function&&env.kindOf n==some .cell)=true then(n,NameKind.cell) else(n,k))::_)=_
  cases Y:y==n with
  |true=>obtain rfl:=bE Y;split<;>(rw [List.lookup_cons,List.lookup_cons,Y];simp only [Option.map_some];split<;>first|rfl|contradiction)
  |false=>split<;>(rw [List.lookup_cons,List.lookup_cons,Y];exact (@DX env y r))
noncomputable def hX (cells:List (Str×Addr)):List (Str×NameKind)->List (Str×Addr)->List (Str×Addr)
 |[],acc=>acc
 |(n,k)::r,acc=>if k==.free then hX cells r ((n,(cells.lookup n).getD 0)::acc) else hX cells r acc
def KG {scope:Scope}{env:Env}(h:∀p∈scope.names,p.2=.free->(env.cells.lookup p.1).isSome=true):closureFor scope env=pure (hX env.cells scope.names []):=by
 delta closureFor;have:∀names acc,(∀p∈names,p.2=.free->(env.cells.lookup p.1).isSome=true)->
   (forIn names acc λx r=>(match x with|(name,kind)=>if(kind==NameKind.free)=true then do let y<-cellOf env name;pure (ForInStep.yield ((name,y)::r)) else pure (ForInStep.yield r):Sem (ForInStep (List (Str×Addr)))))=pure (hX env.cells names acc):=by
  intro names
  induction names with
  |nil=>intro acc _;rfl
  |cons p r ih=>
   intro acc hp;obtain ⟨n,k⟩:=p;rw [List.forIn_cons];by_cases hk:(k==NameKind.free)=true
   ·obtain ⟨c,hc⟩:=iE (hp (n,k) mS (by simpa using hk));simp only [hk,if_true,hX,cellOf,hc,Option.getD_some];exact ih _ λq hq=>hp q (aT _ hq)
   ·have ie:(k==NameKind.free)=false:=by simpa using hk
    simp only [ie,Bool.false_eq_true,if_false,hX];exact ih _ λq hq=>hp q (aT _ hq)
 first
  |exact (this scope.names [] h)
  |(refine Eq.trans ?_ (this scope.names [] h);rfl)
  |(rw [bind_pure];exact (this scope.names [] h))
set_option tactic.hygienic true in
def M3 {cells:List (Str×Addr)}:∀{names:List (Str×NameKind)}{acc:List (Str×Addr)}{p:Str×Addr},p∈hX cells names acc->p∈acc\/(p.1,NameKind.free)∈names/\p.2=(cells.lookup p.1).getD 0:=by
 intro z_
 induction z_ with
 |nil=>intro acc p h;exact .inl h
 |cons p_ r ak=>
  intro acc p h;obtain ⟨n,k⟩:=p_;simp only [hX] at h;split at h
  ·rename_i hk;obtain rfl:k=.free:=by simpa using hk
   rcases ak h with q|⟨q,q'⟩
   ·rcases mE q with rfl|q
    ·exact .inr ⟨mS,rfl⟩
    ·exact .inl q
   ·exact .inr ⟨aT _ q,q'⟩
  ·exact (ak h).elim (λq=>(.inl q)) (λjw=>ay jw λq q'=>(.inr ⟨aT _ q,q'⟩))
def M4 {cells:List (Str×Addr)}{x:Str}:∀{names:List (Str×NameKind)}{acc:List (Str×Addr)},acc.lookup x=some ((cells.lookup x).getD 0)->(hX cells names acc).lookup x=some ((cells.lookup x).getD 0):=by
 intro z_
 induction z_ with
 |nil=>intro acc h;exact h
 |cons p_ r ak=>
  intro acc h;obtain ⟨n,k⟩:=p_;simp only [hX];split
  ·refine ak ?_;rw [List.lookup_cons];by_cases q:x=n
   ·subst q;simp
   ·have:(x==n)=false:=by simpa using q
    simp [this,h]
  ·exact ak h
def ze {cells:List (Str×Addr)}{x:Str}:∀{names:List (Str×NameKind)}{acc:List (Str×Addr)},(x,NameKind.free)∈names->(hX cells names acc).lookup x=some ((cells.lookup x).getD 0)
 |(n,k)::r,acc,h=>by
  simp only [hX];rcases mE h with q|q
  ·(injection q with q_ dq;subst q_;subst dq);exact M4 (by simp [List.lookup_cons])
  ·split
   ·exact ze q
   ·exact ze q
structure nj (sc:Scope)(tg:Expr)(x:X):Prop where
 kind:sc.kind=.function
 iY:sc.names.lookup iY=none
 kG:sc.names.lookup kG=none
 uniq:∀p∈sc.names,sc.names.lookup p.1=some p.2
 tQ:∀p∈sc.names,p.2≠.cell
 loc:∀p∈sc.names,p.2=.local->p.1∈j5 tg\/x.vars.lookup p.1=none
 free:∀p∈sc.names,p.2=.free->x.sc.lookup p.1=some .cell/\(x.vars.lookup p.1).isSome=true
 I4:∀y∈j5 tg,sc.names.lookup y=some .local
def G8 {sc:Scope}{tg:Expr}{x:X}(h:nL sc tg x=true):nj sc tg x:=by delta nL wW at h;simp only [Bool.and_eq_true,Bool.or_eq_true,List.all_eq_true,beq_iff_eq,bne_iff_ne,Option.isNone_iff_eq_none,List.contains_iff_mem,Bool.not_eq_true'] at h;exact ay h λeV b3=>ay eV λlG b2=>ay lG λdK b1=>ay dK λdn a6=>ay dn λgP a5=>ay gP λiw a4=>ay iw λmY a3=>ay mY λa1 a2=>⟨a1,a4,a5,λp hp=>a6 p hp,λp hp=>(b1 p hp).1.1,λp hp hl=>(b1 p hp).1.2.elim (λq=>q.elim (λq=>absurd hl q) .inl) .inr,λp hp hf=>(b1 p hp).2.resolve_left λq=>q hf,b2⟩
def D6 (l:List Str)(T:bL)(y:Str):(l.map (λn=>(n,LV.unset))++T).lookup y=if y∈l then some .unset else T.lookup y:=by
 induction l with
 |nil=>rfl
 |cons a l ih=>
  rw [List.map_cons,List.cons_append,List.lookup_cons,ih];by_cases h:y=a
  ·subst h;rw [beq_self_eq_true,if_pos mS]
  ·rw [bN h];by_cases q:y∈l
   ·rw [if_pos q,if_pos (aT _ q)]
   ·rw [if_neg q,if_neg λz=>(mE z).elim h q]
def Ks (T:bL)(y:Str):(sY T).lookup y=(T.lookup y).map conv:=by
 induction T with
 |nil=>rfl
 |cons p r ih=>
  show List.lookup y ((p.1,conv p.2)::sY r)=Option.map conv (List.lookup y ((p.1,p.2)::r));rw [List.lookup_cons,List.lookup_cons]
  cases y==p.1 with
  |true=>rfl
  |false=>exact ih
def OD (lv:LV):(conv lv).own=false:=by cases lv<;>rfl
def Ex {names:List (Str×NameKind)}{tg:Expr}{vars:bL}{σ:St}{y:Str}{lv:LV}(h:(jD names tg vars σ).vars.lookup y=some lv):(y∈j5 tg/\lv=.unset)\/y∉j5 tg/\∃l,vars.lookup y=some l/\lv=conv l:=by
 rw [show(jD names tg vars σ).vars=(j5 tg).map (λn=>(n,LV.unset))++sY vars from rfl,D6,Ks] at h;split at h
 ·exact .inl ⟨by assumption,(oj h).symm⟩
 ·exact lu h λl H M=>.inr ⟨by assumption,l,H,M.symm⟩
def zk {names:List (Str×NameKind)}{tg:Expr}{vars:bL}{σ:St}{y:Str}{lv:LV}(h:(jD names tg vars σ).vars.lookup y=some lv):lv.own=false:=by
 rcases Ex h with⟨_,rfl⟩|⟨_,l,_,rfl⟩
 ·rfl
 ·exact OD l
section
variable{W:Wd} {n:Nat} {c:Cx W n} {x:X} {k:az}
noncomputable def compEnv (c:Cx W n)(sc:Scope)(C:Addr):Env:=compEnvC sc (hX c.env.cells sc.names []) C c.env
noncomputable def u7 (c:Cx W n)(y:Str)(k:NameKind):NameKind:=if(k==NameKind.free&&c.env.scope.kind==.function&&c.env.kindOf y==some .cell) then .cell else k
def wc {sc:Scope}{C:Addr}{y:Str}:(compEnv c sc C).kindOf y=(sc.names.lookup y).map (u7 c y):=DX
def ET {y:Str}:u7 c y .free=.cell\/u7 c y .free=.free:=by delta u7;split<;>first|exact .inl rfl|exact .inr rfl
def R0 {sc:Scope}{tg:Expr}(ok:nj sc tg x)(C:Addr):Fs (compEnv c sc C) sc.names where
 kind:=ok.kind
 glob:=c.fs.glob
 blt:=c.fs.blt
 iY:=ok.iY
 kG:=ok.kG
 vk:=λy q=>by
  refine wc.symm▸?_;generalize z:sc.names.lookup y=z_;induction z_ with
  |none=>replace q:=z▸q;exact aS q
  |some k=>
   replace q:=z▸q
   induction k with
   |«local»=>exact .inl rfl
   |cell=>exact .inr (.inl rfl)
   |free=>exact .inr (ET.imp (congrArg some) (congrArg some))
   |_=>exact kH q
 gk:=λy q=>by refine wc.symm▸q.symm▸?_;rfl
 ck:=λy q=>absurd rfl (ok.tQ _ (mem_of_lookup q))
 lk:=λy q=>by refine wc.symm▸q.symm▸?_;rfl
 IY:=λpS=>aM pS λy q=>absurd rfl (ok.tQ _ (mem_of_lookup q))
noncomputable def pj (c:Cx W n){sc:Scope}{tg:Expr}(ok:nj sc tg x)(C:Addr):Cx W n:=⟨c.A,c.B,compEnv c sc C,sc.names,c.rm,R0 ok C⟩
def Fr.comp (f:Fr c x k){sc:Scope}{tg:Expr}{C:Addr}{m:Str->Option Value}{σ:St}{l:Str->Addr}(ok:nj sc tg x)(hn:k.h.Ns C m)(my:My k.g C)(hB:c.B<=C)(hm:¬bR c.env x k C):Fr (pj c ok C) (jD sc.names tg x.vars σ) ⟨k.g,l,k.s⟩:=by
 have outer:∀{y:Str},(y,NameKind.free)∈sc.names->∃lv b ov,x.vars.lookup y=some lv/\c.env.cells.lookup y=some b/\k.h.IsCell b ov/\LR W k.g k.h ov (k.loc y) lv:=λ{y} q=>by refine bc λjq=>ay (ok.free _ q rfl) λq1 q2=>aM (iE q2) λlv oF=>aq (f.var y lv oF) λov a r=>?_;unfold At at a;replace a:=(c.fs.ck y (f.sc▸q1))▸a;exact aq a λb e z=>jq (fB lv b ov oF e z r)
 have cv:∀{lv:LV}{ov:Option Value}{b:Addr}{y:Str},LR W k.g k.h ov b lv->LR W k.g k.h ov (l y) (conv lv):=λ{lv ov b y} r=>by cases lv<;>first|exact r|trivial
 refine ⟨rfl,(eg m hn),λy lv hy=>?_,⟨my,hB⟩,λp hp=>?_,λy lv hy ho=>?_,λy z ly lz hy hz oy=>?_⟩
 ·have vk:=wc (c:=c) (sc:=sc) (C:=C) (y:=y);show∃ov,At (compEnv c sc C) k.h y ov/\_;delta At;rcases Ex hy with⟨ht,rfl⟩|⟨ht,ui,H,rfl⟩
  ·exact vk.symm▸(ok.I4 y ht).symm▸(af (m y) (af m hn rfl) trivial)
  ·have free:(y,NameKind.free)∈sc.names->∃ov,(∃b,(hX c.env.cells sc.names []).lookup y=some b/\k.h.IsCell b ov)/\LR W k.g k.h ov (l y) (conv ui):=λhf=>by
    refine bc λUu=>eP (outer hf) λlv b ov o1 o2 o3 o4=>?_;obtain rfl:=oj (H.symm.trans o1);refine Uu ?_;exact af ov (af b ((ze hf).trans (by rw [o2];rfl)) o3) (cv o4)
   refine aq (f.var y ui H) λHV _ I5=>?_;generalize hk:sc.names.lookup y=z_;induction z_ with
   |none=>replace vk:=hk▸vk;refine vk.symm▸?_;exact af HV trivial (cv I5)
   |some kd=>
    rw [hk] at vk;refine vk.symm▸?_
    induction kd with
    |«local»=>exact absurd ((ok.loc _ (mem_of_lookup hk) rfl).resolve_left ht) (by refine H.symm▸?_;exact nofun)
    |cell=>exact absurd rfl (ok.tQ _ (mem_of_lookup hk))
    |free=>show∃ov,(match some (u7 c y .free) with|some .local=>_|some .cell=>_|some .free=>_|_=>True)/\_;refine (ET (c:=c) (y:=y)).elim (λe=>?_) (λe=>?_)<;>refine e.symm▸?_<;>exact free (mem_of_lookup hk)
    |_=>exact af HV trivial (cv I5)
 ·refine (M3 hp).elim (λq=>?_) (λUv=>ay Uv λq q'=>?_)
  ·exact cj q
  ·refine eP (outer q) λlv b ov o1 o2 o3 o4=>jm (f.dY _ (mem_of_lookup o2)) λa1 a2 a3 a4=>?_;rw [o2] at q';exact q'.symm▸(eQ a1 a2 a3 (λz=>hm (.inr (.inl (af _ (mem_of_lookup o2) z)))))
 ·rw [zk hy] at ho;exact nomatch ho
 ·replace oy:=(zk hy)▸oy;exact nomatch oy
end
section
variable{W:Wd} {n:Nat} {c:Cx W n} {x x' aI:X} {k k' aC:az} {f:bp} {r:LV×St}
def OE (F:bM W n f):∀{ifs:List Expr}{x:X}{Z:Bool->X->Kt},rQ (ic f 8) true ifs x Z=some r->∃b x',Z b x'=some r/\lI W n (λenv=>ny ifs env true) x b x':=by
 intro z_
 induction z_ with
 |nil=>intro x Z h;exact ax true x h (λc k p=>wpAny_pure (ax k.g k.loc rfl (.refl p)))
 |cons i is ak=>
  intro x Z h;refine aG (ye F h) λb x₁ h E=>?_;have step:∀{b':Bool}{x':X},(∀(c:Cx W n){k k₁:az},aL c x k x₁ k₁->wpAny (Md W.w) c.A (ny is c.env b) (xO c x k b' x') aA k₁.s)->lI W n (λenv=>ny (i::is) env true) x b' x':=λq c k p=>by show wpAny _ _ (forIn (i::is) true _) _ _ _;rw [List.forIn_cons];exact wpAny_bind (wpAny_bind ((E c k p).use λu k₁ cA=>by obtain ⟨rfl,a⟩:=cA;exact wpAny_pure (q c a)))
  induction b with
  |true=>exact aG (ak h) λb' x' h E2=>ax b' x' h (step λc {k k₁} a=>(E2 c _ a.inv).use λu k₂ q=>(ax k₂.g k₂.loc q.1 (a.trans q.2)))
  |false=>exact ax false x₁ h (step λc {k k₁} a=>Lc (ax k₁.g k₁.loc rfl a) is)
def Inv.carry {P R:Addr->Prop}{n':Nat}{c':Cx W n'}{x₁:X}{l:Str->Addr}(p:Inv c x k)(q:Inv c' x₁ ⟨k'.g,l,k'.s⟩)(g:Go P R k k')(hl:k'.loc=k.loc)(hP:∀b,bR c.env x k b->¬P b)(hR:∀b,bR c.env x k b->¬R b):Inv c (x.at x₁.st) k':=
 have f:=p.fr.go g hl hP hR
 ⟨q.tk,q.top,⟨q.rl.ag,q.rl.obj,q.rl.sep,q.rl.new,q.rl.d8,q.rl.top⟩,⟨f.sc,f.ns,f.var,f.jx,f.dY,f.gX,f.inj⟩⟩
def wZ {P R:Addr->Prop}(g:Go P R k k'){d:Addr}(my:My k.g d)(hR:¬R d):∀o,k.h.get? d=some o->k'.h.get? d=some o:=λo q=>(g.kept d o q my.2).resolve_right hR
def Go.Uw {P R:Addr->Prop}(g:Go P R k k')(l l':Str->Addr):Go P R ⟨k.g,l,k.s⟩ ⟨k'.g,l',k'.s⟩:=⟨g.rest,g.size,g.le,g.quiet,g.fresh,g.kept⟩
structure Tn (c:Cx W n)(x:X)(k:az)(C:Addr)(σ:St)(k':az):Prop where
 inv:Inv c (x.at σ) k'
 go:Go bP (·=C) k k'
 loc:k'.loc=k.loc
 ns:∃m,k'.h.Ns C m
noncomputable def uk (W:Wd)(n:Nat)(sc:Scope)(tg elt:Expr)(ifs:List Expr)(x:X)(v:V)(σ:St)(ro:Option V)(σ':St):Prop:=
 ∀{c:Cx W n}{k:az}{C:Addr}{u acc:Value}{R:Shared->Prop},Inv c (x.at σ) k->(∃m,k.h.Ns C m)->My k.g C->c.B<=C->¬bR c.env x k C->VR W.w k.g v u->
  (ro=none->∀k',Tn c x k C σ' k'->R k'.s)->(∀y,ro=some y->∀k' w,Tn c x k C σ' k'->VR W.w k'.g y w->wpAny (Md W.w) c.A (call (.builtin "list.append") [acc,w]) (λ_=>R) aA k'.s)->
  wpAny (Md W.w) c.A (assign tg (compEnv c sc C) u) (λ_ bO=>wpAny (Md W.w) c.A (ny ifs (compEnv c sc C) true) (λyI cR=>if yI=true then wpAny (Md W.w) c.A (eval elt (compEnv c sc C)) (λy ia=>wpAny (Md W.w) c.A (call (.builtin "list.append") [acc,y]) (λ_=>R) aA ia) aA cR else R cR) aA bO) aA k.s
def M5 {sc:Scope}{tg:Expr}(ok:nj sc tg x){v:V}{bs:List (Str×V)}{σ:St}(h:j9 tg v=some bs):(jD sc.names tg x.vars σ).hasAll bs=true:=by
 have hn:bs.map (·.1)=j5 tg:=by
  cases tg with
  |Name m q=>(injection h with q_;subst q_);rfl
  |Tuple S j q=>refine aH h λT _ h=>?_;exact (D5 h).2.2
  |_=>exact bD h
 refine List.all_eq_true.mpr λq hq=>?_;delta X.has;rw [Bool.and_eq_true];refine ⟨?_,?_⟩
 ·show(sc.names.lookup q.1==some .local||_)=true;refine (ok.I4 _ (hn▸mM hq)).symm▸?_;rfl
 ·rw [show(jD sc.names tg x.vars σ).vars=(j5 tg).map (λn=>(n,LV.unset))++sY x.vars from rfl,D6,if_pos (hn▸mM hq)];rfl
def L3:∀{bs:List (Str×V)}{x:X},(∀y lv,x.vars.lookup y=some lv->lv.own=false)->∀y lv,(x.h_ bs).vars.lookup y=some lv->lv.own=false:=by
 intro z_
 induction z_ with
 |nil=>intro x h y lv q;exact h y lv q
 |cons b bs ak=>
  intro x h y lv q;exact ak (x:=x.put b.1 (.val b.2)) (λz l w=>by
   by_cases e:z=b.1
   ·subst e;obtain rfl:=oj (nQ.symm.trans w);rfl
   ·exact h z l ((k5 e).symm.trans w)) y lv q
def Qm (F:bM W n f){sc:Scope}{tg elt:Expr}{ifs:List Expr}(ok:nj sc tg x){v:V}{σ:St}{Z:Option V->St->Kt}
  (h:compTurn f tg elt ifs sc.names x.vars v σ Z=some r):∃ro σ',Z ro σ'=some r/\uk W n sc tg elt ifs x v σ ro σ':=by
 refine bc λiF=>aH h λbs hb h=>aG (OE F h) λb x₁ h Et=>iF ?_;have step:∀{ro:Option V}{σ':St},(∀{c:Cx W n}{k k₁:az}{C:Addr}{acc:Value}{R:Shared->Prop},aL (pj c ok C) ((jD sc.names tg x.vars σ).h_ bs) k x₁ k₁->
    (ro=none->∀bF k',Inv (pj c ok C) bF k'->bF.st=σ'->Go bP bP k k'->R k'.s)->(∀y,ro=some y->∀bF k' w,Inv (pj c ok C) bF k'->bF.st=σ'->Go bP bP k k'->VR W.w k'.g y w->wpAny (Md W.w) c.A (call (.builtin "list.append") [acc,w]) (λ_=>R) aA k'.s)->
    if b=true then wpAny (Md W.w) c.A (eval elt (compEnv c sc C)) (λy ia=>wpAny (Md W.w) c.A (call (.builtin "list.append") [acc,y]) (λ_=>R) aA ia) aA k₁.s else R k₁.s)->uk W n sc tg elt ifs x v σ ro σ':=λq=>by
  intro c k C u acc R p hn my hB hm hv skip put;refine aM hn λm hn=>?_;have f:=p.fr;refine wpAny_mono (zy (⟨p.tk,p.top,⟨p.rl.ag,p.rl.obj,p.rl.sep,p.rl.new,p.rl.d8,p.rl.top⟩,Fr.comp (x:=x) ⟨f.sc,f.ns,f.var,f.jx,f.dY,f.gX,f.inj⟩ ok hn my hB hm⟩:Inv (pj c ok C) (jD sc.names tg x.vars σ) k) hb (M5 ok hb) hv) (λ_ bO u9=>c9 u9 λCJ uY d=>(Et _ ⟨CJ,uY,bO⟩ d.inv).use λyI rS kx=>?_) λ_ _ f=>f;obtain ⟨rfl,a⟩:=kx;have tn:∀{k':az}{bF:X},Inv (pj c ok C) bF k'->Go bP bP ⟨CJ,uY,bO⟩ k'->Tn c x k C bF.st ⟨k'.g,k.loc,k'.s⟩:=λ{k' bF} i g=>by have gg:Go bP (·=C) k ⟨k'.g,k.loc,k'.s⟩:=((d.go.mono (λ_ q _=>q) λz q _=>q.elim id λw=>absurd rfl (ok.tQ _ (mem_of_lookup w.1.choose_spec)):Go bP (·=C) k ⟨CJ,uY,bO⟩).trans g (λ_ q _=>q) λ_ q _=>q.elim).Uw k.loc k.loc;exact ⟨show Inv c ((x.at σ).at bF.st) _ from Inv.carry p (x₁:=bF) i gg rfl (λ_ _ q=>q) λz w e=>hm (e▸w),gg,rfl,i.fr.ns⟩
  exact q a (λe bF k' i hs g=>skip e ⟨k'.g,k.loc,k'.s⟩ (hs▸tn i g)) λy e bF k' w i hs g r=>put y e ⟨k'.g,k.loc,k'.s⟩ w (hs▸tn i g) r
 have e0:∀{c:Cx W n}{C:Addr}{k k₁:az}{bF:X},aL (pj c ok C) ((jD sc.names tg x.vars σ).h_ bs) k bF k₁->Go bP bP k k₁:=λa=>a.go.mono (λz q _=>by refine aw q λy lv q1 q2 _=>?_;replace q2:=((L3 (x:=jD sc.names tg x.vars σ) λy lv q=>zk q) y lv q1)▸q2;exact aS q2) λ_ q _=>q
 induction b with
 |true=>exact aG (dD F h) λw bF h Ee=>ax (some w) bF.st h (step λa _ put=>(Ee.use a).use λy k₂ q=>put w rfl bF k₂ y q.1.inv rfl (e0 q.1) q.2.2)
 |false=>exact ax none x₁.st h (step λ{c k k₁ C acc R} a skip _=>skip rfl x₁ k₁ a.inv rfl (e0 a))
end
structure jW (d:Addr)(s s':Shared):Prop where
 rest:∃h tk,s.toks<=tk/\s'={s with heap:=h,toks:=tk}
 size:s.heap.objs.size<=s'.heap.objs.size
 kept:∀b o,b≠d->s.heap.get? b=some o->s'.heap.get? b=some o
def jW.walk {s:Shared}{J:Addr}{h':Heap}{tk:Nat}(hz:s.heap.objs.size<=h'.objs.size)(hk:∀b o,b∉[J]->s.heap.get? b=some o->h'.get? b=some o)(ht:s.toks<=tk):jW J s {s with heap:=h',toks:=tk}:=⟨(ax _ _ ht rfl),hz,λb o hb q=>hk b o (λz=>hb (sE z)) q⟩
section
variable{w:World} {A:Around} {J:Addr} {fp:List Addr} {n:Nat} {P:Nat->Value->Prop} {Si:Nat->Heap->Prop} {s:Shared} {R:Option Value->Shared->Prop}
def EU (Wk:Walks pw w A J fp [J] n P Si)(st:Si n s.heap)(h:∀s',jW J s s'->R none s'):wpAny (Md w) A (pyNext (.ref J)) R aA s:=wpAny_mono (wpAny_toks (wk (Wk.done s (λr s'=>∃h' tk,r=none/\s'={s with heap:=h',toks:=tk}/\(∀b o,b∉[J]->s.heap.get? b=some o->h'.get? b=some o)) aA st λh' tk hk=>(aD h' tk rfl rfl hk)))) (λr s' q=>by obtain ⟨ht,hz,h',tk,rfl,rfl,hk⟩:=q;exact h _ (jW.walk hz hk ht)) λ_ _ w=>w.2.2
def EV {i:Nat}(Wk:Walks pw w A J fp [J] n P Si)(hi:i<n)(st:Si i s.heap)(h:∀v s',P i v->Si (i+1) s'.heap->jW J s s'->R (some v) s'):wpAny (Md w) A (pyNext (.ref J)) R aA s:=wpAny_mono (wpAny_toks (wk (Wk.item i s (λr s'=>∃v h' tk,r=some v/\P i v/\Si (i+1) h'/\s'={s with heap:=h',toks:=tk}/\(∀b o,b∉[J]->s.heap.get? b=some o->h'.get? b=some o)) aA hi st λv h' tk a b d=>(mK v h' tk rfl a b rfl d)))) (λr s' q=>by obtain ⟨ht,hz,v,h',tk,rfl,hp,hs,rfl,hk⟩:=q;exact h v _ hp hs (jW.walk hz hk ht)) λ_ _ w=>w.2.2
end
section
variable{W:Wd} {n:Nat} {c:Cx W n} {x x' aI:X} {k k' aC:az} {f:bp} {r:LV×St}
def Inv.but (p:Inv c x k){d:Addr}{s:Shared}(h:jW d k.s s)(my:My k.g d)(hm:¬bR c.env x k d):Inv c x ⟨k.g,k.loc,s⟩/\Go bP (·=d) k ⟨k.g,k.loc,s⟩:=by
 have g:Go bP (·=d) k ⟨k.g,k.loc,s⟩:=⟨h.rest,h.size,.refl _,λ_ _ q=>.inl q,λ_ h=>.inl h,λb o q _=>by
  by_cases hb:b=d
  ·exact .inr hb
  ·exact .inl (h.kept b o hb q)⟩
 exact ⟨⟨g.tk p.tk,p.top,p.rl.ext (.refl _) (λb o q=>h.kept b o (by rintro rfl;replace q:=my.1▸q;exact aF q) (p.ag b o q)) rfl (λz hz=>(p.rl.d8 z hz).1) h.size λz hz o q=>h.kept _ o (my.2 z hz) q,p.fr.go g rfl (λ_ _ q=>q) λb hb q=>hm (q▸hb)⟩,g⟩
inductive jh (W:Wd)(n:Nat)(sc:Scope)(tg elt:Expr)(ifs:List Expr)(x:X):List V->St->List V->St->Prop
 |nil {σ:St}:jh W n sc tg elt ifs x [] σ [] σ
 |cons {v:V} {T ws:List V} {σ gb px:St} {ro:Option V}:uk W n sc tg elt ifs x v σ ro gb->jh W n sc tg elt ifs x T gb ws px->jh W n sc tg elt ifs x (v::T) σ (ro.toList++ws) px
def OF (F:bM W n f){sc:Scope}{tg elt:Expr}{ifs:List Expr}(ok:nj sc tg x):∀{xs:List V}{σ:St}{Z:List V->St->Kt},sZ (compTurn f tg elt ifs sc.names x.vars) xs σ Z=some r->
  ∃ws σ',Z ws σ'=some r/\jh W n sc tg elt ifs x xs σ ws σ':=by
 intro z_
 induction z_ with
 |nil=>intro σ Z h;exact ax ([]) σ h .nil
 |cons v T ak=>intro σ Z h;exact bc λkJ=>aG (Qm F ok h) λro gb h au=>aG (ak h) λws px h R=>kJ (ax _ px h (.cons au R))
structure CL (W:Wd)(n:Nat) where
 c:Cx W n
 sc:Scope
 tg:Expr
 elt:Expr
 ifs:List Expr
 x:X
 aC:az
 C:Addr
 D:Addr
 J:Addr
 P:Nat->Value->Prop
 Si:Nat->Heap->Prop
 xs:List V
 T:List V
 σ':St
structure CI (L:CL W n)(i:Nat)(ds:List V)(σ:St)(k:az):Prop where
 inv:Inv L.c (L.x.at σ) k
 go:Go bP bP L.aC k
 loc:k.loc=L.aC.loc
 acc:fh W.w k.g k.h L.D ds
 len:ds.length<=i
 ns:∃m,k.h.Ns L.C m
 it:L.Si i k.h
 my:∀d,d=L.C\/d=L.D\/d=L.J->My k.g d/\L.aC.top<=d/\d<k.top
 apart:L.C≠L.D/\L.C≠L.J/\L.D≠L.J
structure Made (c:Cx W n)(x:X)(aC:az)(T:List V)(σ:St)(D C:Addr)(k:az):Prop where
 inv:Inv c (x.at σ) k
 go:Go bP bP aC k
 loc:k.loc=aC.loc
 acc:fh W.w k.g k.h D T
 qe:My k.g D/\aC.top<=D
 ns:∃m,k.h.Ns C m
 dY:My k.g C/\aC.top<=C
 ne:C≠D
def pz (L:CL W n)(m:Nat)(s:Shared):Prop:=∃i ds ws σ k,k.s=s/\i+m=L.xs.length/\jh W n L.sc L.tg L.elt L.ifs L.x (L.xs.drop i) σ ws L.σ'/\L.T=ds++ws/\CI L i ds σ k
variable{L:CL W n} {i j:Nat} {ds gn:List V} {σ σ':St}
def w5 {h h':Heap}{C:Addr}(x:∃m,h.Ns C m)(k:∀o,h.get? C=some o->h'.get? C=some o):∃m,h'.Ns C m:=by refine n_ x λm o S ep q r=>?_;exact pF m o S ep (k _ q) r
def CI.step {R:Addr->Prop}(z:CI L i ds σ k)(g:Go bP R k k')(hR:∀b,R b->L.aC.top<=b)(inv:Inv L.c (L.x.at σ') k')(hl:k'.loc=k.loc)(hD:fh W.w k'.g k'.h L.D gn)(hC:∃m,k'.h.Ns L.C m)(hj:gn.length<=j)(hJ:L.Si j k'.h):CI L j gn σ' k':=⟨inv,z.go.trans g (λ_ q _=>q) λb q hb=>absurd (hR b q) (Nat.not_le.mpr hb),hl.trans z.loc,hD,hj,hC,hJ,λd hd=>(bx ((z.my d hd).1.go (z.my d hd).2.2 g id) ((z.my d hd).2.1) (lL (z.my d hd).2.2 g.size)),z.apart⟩
def CI.w6 {σ₀:St}(p:Inv L.c (L.x.at σ₀) L.aC)(z:CI L i ds σ k){d:Addr}(hd:d=L.C\/d=L.D\/d=L.J):¬bR L.c.env (L.x.at σ) k d:=λq=>by rw [we z.loc] at q;exact p.jU (z.my d hd).2.1 q
def CI.moved {σ₀:St}(p:Inv L.c (L.x.at σ₀) L.aC)(z:CI L i ds σ k){s:Shared}(b:jW L.J k.s s)(hj:i<=j)(hS:L.Si j s.heap):CI L j ds σ ⟨k.g,k.loc,s⟩:=by exact ay (z.inv.but b (z.my L.J (.inr (.inr rfl))).1 (z.w6 p (.inr (.inr rfl)))) λinv g=>z.step g (λb q=>q▸(z.my L.J (.inr (.inr rfl))).2.1) inv rfl (z.acc.mono (.refl _) λo q=>b.kept _ o z.apart.2.2 q) (w5 z.ns λo q=>b.kept _ o z.apart.2.1 q) (nT z.len hj) hS
def CI.grown {σ₀:St}(p:Inv L.c (L.x.at σ₀) L.aC)(z:CI L i ds σ k){h':Heap}(l:fh W.w k.g h' L.D gn)(hs:Heap.SameBut L.D k.h h')(hj:gn.length<=i)(hS:L.Si i h'):CI L i gn σ ⟨k.g,k.loc,{k.s with heap:=h'}⟩:=by have hD:L.D=L.C\/L.D=L.D\/L.D=L.J:=.inr (.inl rfl);have b:jW L.D k.s {k.s with heap:=h'}:=⟨(ax _ _ (nR _) rfl),Nat.le_of_eq hs.1.symm,λb o hb q=>(hs.2 b hb).trans q⟩;exact ay (z.inv.but b (z.my L.D hD).1 (z.w6 p hD)) λinv g=>z.step g (λb q=>q▸(z.my L.D hD).2.1) inv rfl l (w5 z.ns λo q=>b.kept _ o z.apart.1 q) hj hS
def CI.made (z:CI L i ds σ k):Made L.c L.x L.aC ds σ L.D L.C k:=⟨z.inv,z.go,z.loc,z.acc,⟨(z.my L.D (.inr (.inl rfl))).1,(z.my L.D (.inr (.inl rfl))).2.1⟩,z.ns,⟨(z.my L.C (.inl rfl)).1,(z.my L.C (.inl rfl)).2.1⟩,z.apart.1⟩
def CI.ended {σ₀:St}(p:Inv L.c (L.x.at σ₀) L.aC)(z:CI L i ds σ k){s:Shared}(b:jW L.J k.s s):Made L.c L.x L.aC ds σ L.D L.C ⟨k.g,k.loc,s⟩:=by exact ay (z.inv.but b (z.my L.J (.inr (.inr rfl))).1 (z.w6 p (.inr (.inr rfl)))) λinv g=>⟨inv,z.go.trans g (λ_ q _=>q) λb q hb=>absurd (z.my L.J (.inr (.inr rfl))).2.1 (q▸Nat.not_le.mpr hb),z.loc,z.acc.mono (.refl _) λo q=>b.kept _ o z.apart.2.2 q,z.made.qe,w5 z.ns λo q=>b.kept _ o z.apart.2.1 q,z.made.dY,z.apart.1⟩
def jh.nil_of {sc:Scope}{tg elt:Expr}{ifs:List Expr}{ws:List V}(h:jh W n sc tg elt ifs x [] σ ws σ'):ws=[]/\σ=σ':=by cases h;exact ⟨rfl,rfl⟩
def jh.cons_of {sc:Scope}{tg elt:Expr}{ifs:List Expr}{v:V}{T ws:List V}(h:jh W n sc tg elt ifs x (v::T) σ ws σ'):∃ro gb rest,uk W n sc tg elt ifs x v σ ro gb/\jh W n sc tg elt ifs x T gb rest σ'/\ws=ro.toList++rest:=by
 cases h with
 |cons a b=>exact gf _ _ _ a b rfl
def M6 {σ₀:St}(p:Inv L.c (L.x.at σ₀) L.aC)(hf:L.xs.length<=1048576){fp:List Addr}(frame:∀i h h',L.Si i h->(∀b∈fp,∀o,h.get? b=some o->h'.get? b=some o)->L.Si i h')(gZ:∀b∈fp,b=L.J\/∃o,L.aC.g.I b=some o)
  {m:Nat} {v:V} {u:Value} {ro:Option V} {gb:St} {rest:List V} (z:CI L (i+1) ds σ k) (hi:ds.length<=i) (hm:i+m=L.xs.length) (Zl:m≠0) (au:uk W n L.sc L.tg L.elt L.ifs L.x v σ ro gb) (mB:jh W n L.sc L.tg L.elt L.ifs L.x (L.xs.drop (i+1)) gb rest L.σ') (jX:L.T=ds++(ro.toList++rest)) (hv:VR W.w k.g v u):
  wpAny (Md W.w) L.c.A (assign L.tg (compEnv L.c L.sc L.C) u) (λ_ bO=>wpAny (Md W.w) L.c.A (ny L.ifs (compEnv L.c L.sc L.C) true) (λyI cR=>if yI=true then wpAny (Md W.w) L.c.A (eval L.elt (compEnv L.c L.sc L.C)) (λy ia=>wpAny (Md W.w) L.c.A (call (.builtin "list.append") [.ref L.D,y]) (λ_ s=>∃m',m'<m/\pz L m' s) aA ia) aA cR else∃m',m'<m/\pz L m' cR) aA bO) aA k.s:=by
 have st:∀{h':Heap}{k':az},CI L (i+1) ds gb k'->(∀o,k'.h.get? L.J=some o->h'.get? L.J=some o)->(∀b o,k'.g.I b=some o->h'.get? b=some o)->L.Si (i+1) h':=λz' H M=>frame _ _ _ z'.it λb hb o q=>by
  rcases gZ b hb with rfl|⟨y,hy⟩
  ·exact H o q
  ·have hI:=z'.go.le.I b y hy;obtain rfl:=oj ((z'.inv.ag b y hI).symm.trans q);exact M b _ hI
 have next:∀{k':az},Tn L.c L.x k L.C gb k'->CI L (i+1) ds gb k':=λt=>by
  refine z.step t.go (λb q=>q▸(z.my L.C (.inl rfl)).2.1) t.inv t.loc (z.acc.mono t.go.le (wZ t.go (z.my L.D (.inr (.inl rfl))).1 λq=>z.apart.1 q.symm)) t.ns z.len (frame _ _ _ z.it λb hb o q=>?_);rcases gZ b hb with rfl|⟨y,hy⟩
  ·exact wZ t.go (z.my L.J (.inr (.inr rfl))).1 (λq=>z.apart.2.1 q.symm) _ q
  ·have hI:=z.go.le.I b y hy;obtain rfl:=oj ((z.inv.ag b y hI).symm.trans q);exact t.inv.ag b _ (t.go.le.I b _ hI)
 have fin:∀{gn ws:List V}{k':az},CI L (i+1) gn gb k'->rest=ws->L.T=gn++ws->∃m',m'<m/\pz L m' k'.s:=λ{gn ws k'} z' e h=>⟨m-1,(Nat.sub_one_lt ‹_›),i+1,gn,ws,gb,k',rfl,(JE ‹_› ‹_›),e▸mB,h,z'⟩;refine au z.inv z.ns (z.my L.C (.inl rfl)).1 (nT (p.base (nR _)) (z.my L.C (.inl rfl)).2.1) (z.w6 p (.inl rfl)) hv (λe k' t=>?_) λy e k' w t r=>?_
 ·subst e;exact fin (next t) rfl jX
 ·subst e;have z':=next t
  refine zj z'.acc r (nT hi (nT (hm▸lA i m) hf)) λh' l sb=>?_;exact fin (z'.grown p l sb (by refine List.length_append.symm▸?_;exact Nat.succ_le_succ hi) (st z' (λo q=>(sb.2 _ (Ne.symm z.apart.2.2)).trans q) λb o q=>(sb.2 b (by rintro rfl;exact aF ((z'.my L.D (.inr (.inl rfl))).1.1.symm.trans q))).trans (z'.inv.ag b o q))) rfl (by rw [jX,List.append_assoc];rfl)
def Ux (L:CL W n)(RR:Result->Shared->Prop)(m:Nat)(s:Shared):Prop:=wpAny (Md W.w) L.c.A (pyNext (.ref L.J)) (λr s₁=>match r with
   |none=>RR (.ok .next) s₁
   |some v=>wpAny (Md W.w) L.c.A (letOwnedTupleGo L.tg (.ref L.J) v) (λ_ mA=>wpAny (Md W.w) L.c.A (assign L.tg (compEnv L.c L.sc L.C) v) (λ_ bO=>
     wpAny (Md W.w) L.c.A (ny L.ifs (compEnv L.c L.sc L.C) true) (λok cR=>
      if ok=true then wpAny (Md W.w) L.c.A (eval L.elt (compEnv L.c L.sc L.C)) (λx ia=>wpAny (Md W.w) L.c.A (call (.builtin "list.append") [.ref L.D,x]) (λ_ pQ=>∃m',m'<m/\pz L m' pQ) aA ia) aA cR
      else∃m',m'<m/\pz L m' cR) aA bO) aA mA) aA s₁) aA s
def M7 {u_:Shared}{σ₀:St}(p:Inv L.c (L.x.at σ₀) L.aC)(hf:L.xs.length<=1048576)(it:oE W L.aC.g L.xs L.J L.P L.Si L.aC.s u_){fp:List Addr}(Wk:Walks pw W.w L.c.A L.J fp [L.J] L.xs.length L.P L.Si)(gZ:∀b∈fp,b=L.J\/∃o,L.aC.g.I b=some o)
  {RR:Result->Shared->Prop} (hR:∀k',Made L.c L.x L.aC L.T L.σ' L.D L.C k'->RR (.ok .next) k'.s):∀m s,pz L m s->Ux L RR m s:=by
 rintro m _ ⟨i,ds,ws,Zm,k,rfl,JX,hl,jX,z⟩;by_cases hm:m=0
 ·have hi:i=L.xs.length:=(Dc ‹_› ‹_›);replace hl:=List.drop_length▸hi▸hl;(refine ay hl.nil_of λkn pT=>?_;subst kn;subst pT);rw [List.append_nil] at jX;exact EU Wk (hi▸z.it) λs b=>hR ⟨k.g,k.loc,s⟩ (jX▸z.ended p b)
 ·have fT:i<L.xs.length:=(JF ‹_› ‹_›);replace hl:=(List.drop_eq_getElem_cons fT)▸hl;(refine fA hl.cons_of λro gb rest au mB mT=>?_;subst mT);refine EV Wk fT z.it λv s hP hS b=>it.own hP hS (bc λpH=>aq (it.item i v hP) λy vG sA=>?_);obtain rfl:=oj ((cM fT).symm.trans vG);exact pH (M6 p hf Wk.frame gZ (z.moved p b (lS i) hS) z.len JX hm au mB jX (sA.mono (z.moved p b (lS i) hS).go.le))
def M8 {iter:Expr}{pos:Pos}{u_:Shared}{σ₀:St}(p:Inv L.c (L.x.at σ₀) L.aC)(hf:L.xs.length<=1048576)(R:jh W n L.sc L.tg L.elt L.ifs L.x L.xs σ₀ L.T L.σ')(it:oE W L.aC.g L.xs L.J L.P L.Si L.aC.s u_)(start:CI L 0 [] σ₀ k)
  {RR:Result->Shared->Prop} (hR:∀k',Made L.c L.x L.aC L.T L.σ' L.D L.C k'->RR (.ok .next) k'.s):
  codeAny (Md W.w) L.c.A (.compLoop (.ListComp L.elt [⟨L.tg,iter,L.ifs,0⟩] L.sc pos) 0 (.ref L.J) (.ref L.D) (compEnv L.c L.sc L.C)) RR k.s:=by
 exact aq (it.walks L.c.A L.c.rm.handled) λfp Wk gZ=>KX (pz L) (M7 p hf it Wk gZ hR) L.xs.length (rN 0 ([]) L.T σ₀ k rfl (Nat.zero_add _) R rfl start)
end
section
variable{W:Wd} {n:Nat} {c:Cx W n} {x x' aI:X} {k k' aC:az} {f:bp} {r:LV×St}
noncomputable def Uy (c:Cx W n)(sc:Scope)(tg elt iter:Expr)(ifs:List Expr)(pos:Pos)(RR:Value->Addr->Result->Shared->Prop)(it:Value)(bO:Shared):Prop:=wpAny (Md W.w) c.A (newList []) (λacc cR=>wpAny (Md W.w) c.A (newFunctionEnv sc c.env.globals (hX c.env.cells sc.names []) [] c.env.qual none .none (some c.env)) (λI6 ia=>codeAny (Md W.w) c.A (.compStart (.ListComp elt [⟨tg,iter,ifs,0⟩] sc pos) 0 it acc {I6 with scope:=relabel sc c.env}) (RR acc I6.locals) ia) aA cR) aA bO
def L4 (p:Inv c x k){xs T:List V}{J:Addr}{P:Nat->Value->Prop}{Si:Nat->Heap->Prop}{s:Shared}{h':Heap}{tk:Nat}{σ':St}{sc:Scope}{tg elt:Expr}{ifs:List Expr}{m:Str->Option Value}{bw:Heap}(it:oE W k.g xs J P Si k.s s)
  (hH:bw=s.heap.push (lobj #[] 0)) (vH:h'.Ns bw.objs.size m) {o:Obj} (vI:Heap.SameBut bw.objs.size (bw.push o) h') (htk:s.toks<=tk):
  Ext k.s {s with heap:=h',toks:=tk}/\CI (⟨c,sc,tg,elt,ifs,x,k,bw.objs.size,s.heap.objs.size,J,P,Si,xs,T,σ'⟩) 0 [] x.st ⟨k.g,k.loc,{s with heap:=h',toks:=tk}⟩:=by
 have hC:bw.objs.size=s.heap.objs.size+1:=by rw [hH,Heap.size_push]
 have HW:h'.objs.size=s.heap.objs.size+2:=by rw [vI.1,Heap.size_push,hC]
 have keep:∀b o,s.heap.get? b=some o->h'.get? b=some o:=λb o q=>(vI.2 b (by have:b<s.heap.objs.size:=Heap.lt_size q;rw [hC];exact Nat.ne_of_lt (Nat.lt_succ_of_lt this))).trans (Heap.get?_push_of_some _ (hH▸Heap.get?_push_of_some _ q))
 have ext:=it.ext.trans (⟨(ax _ _ htk rfl),by show _<=h'.objs.size;rw [HW];exact lA _ 2,keep⟩);have l:Lf k ⟨k.g,k.loc,{s with heap:=h',toks:=tk}⟩:=.dZ p.ag ext;have WO:h'.get? s.heap.objs.size=some (lobj #[] 0):=(vI.2 _ (by rw [hC];exact Nat.ne_of_lt (Nat.lt_succ_self _))).trans (Heap.get?_push_of_some _ (hH▸eR rfl));refine aq (it.walks c.A c.rm.handled) λfp Wk gZ=>⟨ext,p.lf l,l.go,rfl,(ax (#[]) 0 WO .nil),nR _,(eg _ vH),Wk.frame 0 _ _ it.st λb hb o q=>keep b o q,λd hd=>?_,?_,?_,?_⟩
 ·have:k.top<=d/\@LT.lt Nat _ d h'.objs.size:=by
   rw [HW];rcases hd with rfl|rfl|rfl
   ·show k.top<=bw.objs.size/\bw.objs.size<_;rw [hC];exact ⟨lB it.ext.size,Nat.lt_succ_self _⟩
   ·exact ⟨it.ext.size,Nat.lt_succ_of_lt (Nat.lt_succ_self _)⟩
   ·exact ⟨it.new.1,Nat.lt_succ_of_lt (Nat.lt_succ_of_lt it.new.2)⟩
  exact ⟨p.my this.1 (p.ag.none this.1) rfl,this⟩
 ·show bw.objs.size≠s.heap.objs.size;rw [hC];exact Nat.succ_ne_self _
 ·show bw.objs.size≠J;rw [hC];exact Ne.symm (Nat.ne_of_lt (Nat.lt_succ_of_lt it.new.2))
 ·exact Ne.symm (Nat.ne_of_lt it.new.2)
def M9 {sc:Scope}{tg elt iter:Expr}{ifs:List Expr}{pos:Pos}(ok:nj sc tg x){v:V}{xs T:List V}{u:Value}{σ':St}
  (p:Inv c x k) (Y:VR W.w k.g v u) (hi:bA v=some xs) (hf:xs.length<=1048576) (R:jh W n sc tg elt ifs x xs x.st T σ') {RR:Value->Addr->Result->Shared->Prop} (hR:∀D C k',Made c x k T σ' D C k'->RR (.ref D) C (.ok .next) k'.s):
  wpAny (Md W.w) c.A (pyIter u) (Uy c sc tg elt iter ifs pos RR) aA k.s:=by
 refine wB p.ag Y hi λJ P Si s it=>?_;refine wpAny_newObj_type (wpAny_newFunctionEnv ok.tQ (by intro y hy;exact cj hy) (λgQ vH vI=>?_) ok.kind);refine bc λcG=>ay (L4 (htk:=(nR _)) (T:=T) (σ':=σ') (sc:=sc) (tg:=tg) (elt:=elt) (ifs:=ifs) (tk:=s.toks+([]:List (Str×Value)).length) p it rfl vH vI) λext start=>aq (it.walks c.A c.rm.handled) λfp Wk gZ=>cG ?_;have loop:=M8 (iter:=iter) (pos:=pos) (σ₀:=x.st) p hf R it start (hR _ _);exact codeAny_compStart_list loop (Wk.self 0 _ _ _ start.it loop)
def L5 (p:Inv c x k){sc:Scope}{tg:Expr}(ok:nj sc tg x):closureFor sc c.env=pure (hX c.env.cells sc.names []):=KG λq hq hf=>by refine bc λgP=>ay (ok.free q hq hf) λq1 q2=>?_;obtain ⟨lv,oF⟩:=iE q2;refine aq (p.fr.var q.1 lv oF) λov a _=>?_;unfold At at a;replace a:=(c.fs.ck q.1 (p.fr.sc▸q1))▸a;refine aq a λb e _=>gP ?_;refine e.symm▸?_;rfl
def Ey {e:Expr}(h:∀y j p,e≠.Set y j p){env:Env}(v:Value):foldedSetIterable e env v=pure v:=by cases e<;>first|rfl|exact absurd rfl (h _ _ _)
def Fx (aK:eG f){e:Expr}{Z:V->X->Kt}(h:cB f e x Z=some r):∀y j p,e≠.Set y j p:=by rintro y j p rfl;exact aF ((aK.set ..).symm.trans h)
structure pA (W:Wd)(n:Nat)(elt tg it:Expr)(ifs:List Expr)(sc:Scope)(x:X)(T:List V)(x₁:X)(σ':St):Prop where
 walk:∀{c:Cx W n}{k:az}{pos:Pos}{use:Option (Value->Sem Unit)}{Q:Value->Shared->Prop},Inv c x k->(∀D C k₁ k',aL c x k x₁ k₁->Made c x₁ k₁ T σ' D C k'->compPost (Md W.w) c.A aA use Q (.ref D) C (.ok .next) k'.s)->
  wpAny (Md W.w) c.A (comprehension (.ListComp elt [⟨tg,it,ifs,0⟩] sc pos) sc c.env (firstIterPos [⟨tg,it,ifs,0⟩] pos) (newList []) false (eval it c.env) use) Q aA k.s
def EW (F:bM W n f)(aK:eG f){elt tg it:Expr}{ifs:List Expr}{sc:Scope}{Z:LV->X->Kt}(h:xp f elt tg it ifs sc x Z=some r):∃T x₁ σ',Z (.ml T) (x₁.at σ')=some r/\pA W n elt tg it ifs sc x T x₁ σ':=by refine bc λpU=>ay (bK h) λUz h=>?_;have CK:=Fx aK h;refine aG (dD F h) λv x₁ h E=>fS h λxs hi hc h=>?_;rw [Bool.and_eq_true] at hc;have ok:=G8 Uz;have HX:=G8 hc.2;exact aG (OF F HX h) λT σ' h R=>pU (Wt T x₁ σ' h ⟨λ{c k pos use Q} p hQ=>wpAny_comprehension_free rfl (Ey CK) (L5 p ok) ok.kind (λy hy hl=>(ok.uniq y hy).symm▸hl.symm▸rfl) ((E c k p).use λu k₁ q=>M9 (pos:=pos) (RR:=λacc C=>compPost (Md W.w) c.A aA use Q acc C) HX q.1.inv q.2 hi (fit_le hc.1) R λD C k' m=>hQ D C k₁ k' q.1 m)⟩)
def Made.got {x₁:X}{k₁:az}{T:List V}{σ':St}{D C:Addr}(p:Inv c x k)(a:aL c x k x₁ k₁)(m:Made c x₁ k₁ T σ' D C k'){h':Heap}(hs:Heap.SameBut C k'.h h'):
  aL c x k (x₁.at σ') ⟨k'.g,k'.loc,{k'.s with heap:=h'}⟩/\Got W k.top ⟨k'.g,k'.loc,{k'.s with heap:=h'}⟩ (.ml T) (.ref D):=by
 have nm:¬bR c.env (x₁.at σ') k' C:=λq=>by rw [we m.loc] at q;exact a.inv.jU m.dY.2 q
 refine ay (m.inv.but (s:={k'.s with heap:=h'}) ⟨(ax _ _ (nR _) rfl),Nat.le_of_eq hs.1.symm,λb o hb q=>(hs.2 b hb).trans q⟩ m.dY.1 nm) λinv g=>?_;refine ⟨⟨inv,(a.go.trans m.go (λ_ q _=>q.elim) λ_ q _=>q).trans g (λ_ q _=>q.elim) λb q hb=>absurd hb (by refine q.symm▸?_;exact gW (nT a.go.size m.dY.2)),λb q=>a.own b ?_⟩,D,⟨rfl,m.acc.mono (.refl _) λo q=>(hs.2 D (Ne.symm m.ne)).trans q⟩,λ_=>⟨m.qe.1,nT a.go.size m.qe.2⟩⟩;have q:lE x₁ k' b:=q;rw [qx m.loc] at q;exact q
def Qn (F:bM W n f)(aK:eG f){elt tg it:Expr}{ifs:List Expr}{sc:Scope}{pos:Pos}{Z:LV->X->Kt}(h:xp f elt tg it ifs sc x Z=some r):∃lv x',Z lv x'=some r/\cZ W n (.ListComp elt [⟨tg,it,ifs,0⟩] sc pos) x lv x':=by exact Cf (EW F aK h) λT x₁ σ' h E=>ax _ _ h (λc k p=>E.walk p λD C k₁ k' a m=>aM m.ns λmm hm=>af mm hm (λh' hs=>(dB _ _ (m.got p a hs))))
end
section
variable{W:Wd} {n:Nat} {call:hU} {new:km}
def M_ {f:bp}:eG (qT call new f):=⟨λ_ _ _ _=>rfl,λ_ _ _ _ _=>rfl⟩
def Ap:∀d,eG (ev call new d):=by
 intro z_
 induction z_ with
 |zero=>exact ⟨λ_ _ _ _=>rfl,λ_ _ _ _ _=>rfl⟩
 |succ d ak=>exact M_
def Qo {f:bp}(F:bM W n f)(aK:eG f)(au:gh W)(hC:mq W n call)(hN:ph W n new){fn:Expr}{as:List Expr}{pos:Pos}{x:X}{Z:LV->X->Kt}{r:LV×St}(h:AJ call new f fn as pos x Z=some r):∃lv x',Z lv x'=some r/\cZ W n (.Call fn as [] pos) x lv x':=by
 cases fn with
 |Name m np=>exact Oz F aK au hC hN h
 |Attribute e m apos=>refine ay (bK h) λhg h=>?_;exact OA F aK au hC hg h
 |_=>exact bD h
set_option tactic.hygienic true in
def OG (au:gh W)(hC:mq W n call)(hN:ph W n new){f:bp}(F:bM W n f)(aK:eG f):bM W n (qT call new f):=by
 intro h;rename_i e x Z r
 cases e with
 |Constant c j q=>exact aH h λv hv h=>ax _ x h (λc k p=>MV hv p)
 |Name m q=>exact Ot au.top h
 |BinOp l op e q=>exact RV F h
 |UnaryOp op e q=>exact T7 F h
 |BoolOp op S q=>exact aG (Qf F h) λv x' h E=>ax _ x' h (λc k p=>KY (arm_eval_BoolOp ..) (wpAny_mono (E c q k p) (λu s eV=>c9 eV λg l q=>(ax g l q.1 (.val q.2))) λ_ _ z=>z))
 |Compare l ops rs q=>exact RX F aK h
 |IfExp t b o q=>exact T8 F h
 |Subscript e i q=>exact RY F h
 |Attribute e m q=>refine ay (bK h) λY h=>?_;exact Qj F au Y h
 |Tuple S j q=>exact Oy F aK h
 |List S q=>exact Qi F aK h
 |Dict G T q=>refine ay (bK h) λhl h=>?_;exact Qk F au.top (cS hl) h
 |Call fn as oA q=>refine ay (bK h) λhk h=>?_;obtain rfl:=List.isEmpty_iff.mp hk;exact Qo F aK au hC hN h
 |ListComp elt gens sc q=>refine fS h λg hg ha h=>?_;obtain rfl:=ja hg;obtain ⟨tg,it,ifs,as⟩:=g;obtain rfl:=bE ha;exact Qn F aK h
 |_=>exact bD h
where
 KY {α:Type} {bj:Model} {A:Around} {t u:Sem α} {Q:α->Shared->Prop} {E:Value->Shared->Prop} {s:Shared} (e:t=u) h:wpAny bj A t Q E s:=e▸h
def AQ (au:gh W)(hC:mq W n call)(hN:ph W n new):∀d,bM W n (ev call new d):=by
 intro bz
 induction bz with
 |zero=>exact λh=>bD h
 |succ aJ ak=>exact OG au hC hN (ak) (Ap aJ)
end
set_option backward.match.sparseCases true
section
variable{W:Wd} {n:Nat}
noncomputable def Dj (c:Cx W n)(k:az)(f:Flow):Fl->Prop
 |.next=>f=.next
 |.brk=>False
 |.cont=>f=.cont
 |.ret lv=>∃u,f=.ret u/\lH c k lv u
abbrev iH (c:Cx W n)(x:X)(k:az)(fl:Fl)(x':X)(f:Flow)(s:Shared):Prop:=∃g l,fL c x k x' ⟨g,l,s⟩/\Dj c ⟨g,l,s⟩ f fl
def iI (W:Wd)(n:Nat)(st:Stmt)(x:X)(fl:Fl)(x':X):Prop:=∀(c:Cx W n) k,Inv c x k->wpAny (Md W.w) c.A (exec st c.env) (iH c x k fl x') aA k.s
def lV (W:Wd)(n:Nat)(ss:List Stmt)(x:X)(fl:Fl)(x':X):Prop:=∀(c:Cx W n) k,Inv c x k->wpAny (Md W.w) c.A (execs ss c.env) (iH c x k fl x') aA k.s
def mZ (W:Wd)(n:Nat)(g:gj):Prop:=∀{st:Stmt}{x:X}{Z:Fl->X->Kt}{r:LV×St},g st x Z=some r->∃fl x',Z fl x'=some r/\iI W n st x fl x'
variable{c:Cx W n} {x x' aI x₁:X} {k k' aC k₁:az} {lv:LV} {fl:Fl} {r:LV×St} {Z:Fl->X->Kt}
def iI.use {st:Stmt}(h:iI W n st x fl x')(a:fL c aI aC x k):wpAny (Md W.w) c.A (exec st c.env) (iH c aI aC fl x') aA k.s:=wpAny_mono (h c k a.inv) (λ_ _ bu=>c9 bu λg l q=>(ax g l (a.trans q.1) q.2)) λ_ _ z=>z
def lV.use {ss:List Stmt}(h:lV W n ss x fl x')(a:fL c aI aC x k):wpAny (Md W.w) c.A (execs ss c.env) (iH c aI aC fl x') aA k.s:=wpAny_mono (h c k a.inv) (λ_ _ cx=>c9 cx λg l q=>(ax g l (a.trans q.1) q.2)) λ_ _ z=>z
def tB {g:gj}(ai:mZ W n g):∀{ss:List Stmt}{x:X}{Z:Fl->X->Kt},fg g ss x Z=some r->∃fl x',Z fl x'=some r/\lV W n ss x fl x':=by
 intro z_
 induction z_ with
 |nil=>intro x Z h;exact ax .next x h (λc k p=>wpAny_execs_nil (ax k.g k.loc (.refl p) rfl))
 |cons s ss ak=>
  intro x Z h;refine aG (ai h) λfl x₁ h E=>?_;have step:∀{iJ:Fl}{x':X},(∀{c:Cx W n}{k:az}{f:Flow}{k₁:az},fL c x k x₁ k₁->Dj c k₁ f fl->(match f with|.next=>wpAny (Md W.w) c.A (execs ss c.env) (iH c x k iJ x') aA k₁.s|f=>iH c x k iJ x' f k₁.s))->lV W n (s::ss) x iJ x':=λq c k p=>wpAny_execs_cons (wpAny_mono (E c k p) (λf s fm=>c9 fm λg l q'=>by have:=q q'.1 q'.2;exact this) λ_ _ z=>z)
  induction fl with
  |next=>refine aG (ak h) λiJ x' h E2=>?_;exact ax iJ x' h (step λa e=>by subst e;exact E2.use a)
  |cont=>exact ax .cont x₁ h (step λ{c k f k₁} a e=>by subst e;exact (ax k₁.g k₁.loc a rfl))
  |brk=>exact ax .brk x₁ h (step λa e=>e.elim)
  |ret lv=>exact ax (.ret lv) x₁ h (step λ{c k f k₁} a e=>by(refine aq e λu dK l=>?_;subst dK);exact ⟨k₁.g,k₁.loc,a,u,rfl,l⟩)
variable{f:bp}
def R1 (F:bM W n f){g:gj}(ai:mZ W n g){t:Expr}{b o:List Stmt}{pos:Pos}(h:(ic f 8 t x λc x=>cond c (fg g b x Z) (fg g o x Z))=some r):∃fl x',Z fl x'=some r/\iI W n (.If t b o pos) x fl x':=by
 refine aG (ye F h) λz x₁ h eW=>?_;have step:∀{fl:Fl}{x':X},lV W n (cond z b o) x₁ fl x'->iI W n (.If t b o pos) x fl x':=λE c k p=>
  wpAny_If ((eW c k p).use λu k₁ q=>by
   obtain ⟨rfl,a⟩:=q
   cases u<;>exact (E.use a.toS))
 induction z with
 |true=>obtain ⟨fl,x',h,E⟩:=tB ai h;exact ⟨fl,x',h,step E⟩
 |false=>obtain ⟨fl,x',h,E⟩:=tB ai h;exact ⟨fl,x',h,step E⟩
def Qp (F:bM W n f){e:Option Expr}{pos:Pos}(h:Bu f e x Z=some r):∃fl x',Z fl x'=some r/\iI W n (.Return e pos) x fl x':=by
 induction e with
 |none=>exact ax _ x h (λc k p=>wpAny_Return_none ⟨k.g,k.loc,.refl p,.none,rfl,.val .none⟩)
 |some e=>exact aG (uO F h) λlv x₁ h E=>ax _ x₁ h (λc k p=>wpAny_Return_some ((E c k p).use λu k₁ q=>⟨k₁.g,k₁.loc,q.1.toS,u,rfl,q.2⟩))
def zz (p:Inv c aI aC)(a:aL c aI aC x k){y:Str}{u:Value}(l:Got W aC.top k lv u)(Y:x.has y=true):wpAny (Md W.w) c.A (storeName c.env y u) (λ_ s=>∃g l,fL c aI aC (x.put y lv) ⟨g,l,s⟩) aA k.s:=by
 refine aq l λb l f=>(a.inv.store Y l (λo=>(bx ((f o).1) (p.base (f o).2) (λq=>p.jU (f o).2 (kQ q a.own))):lv.own=true->My k.g b/\c.B<=b/\¬bR c.env x k b)).use λ_ k' q=>⟨k'.g,k'.loc,q.1,?_,λz w=>?_⟩
 ·exact (a.toS.go).trans q.2.2.1 (λ_ w _=>w.elim) λz w _=>kQ w.bR a.own
 ·rcases q.2.2.2 z w with w|⟨o,rfl⟩
  ·exact .inl (kQ w a.own)
  ·exact .inr (f o).2
end
set_option backward.match.sparseCases false
section
variable{W:Wd} {n:Nat} {c:Cx W n} {x x' aI x₁:X} {k k' aC k₁:az} {lv:LV} {fl:Fl} {r:LV×St} {Z:Fl->X->Kt}
noncomputable def Gh.more (g:Gh)(p:Addr×Addr):Gh:=⟨g.I,g.ρ++[p]⟩
def Gh.tC {g:Gh}{p:Addr×Addr}:g.Le (g.more p):=⟨λ_ _ e=>e,List.prefix_append ..⟩
def Gh.w7 {g:Gh}{p:Addr×Addr}{j:Nat}(h:g.ρ.length=j):(g.more p).ρ[j]?=some p:=by subst h;exact List.getElem?_concat_length ..
def Rl.alloc {σ:St}(rl:Rl W σ k)(l:Lf k k'){a d:Addr}{o:O}(hd:k.top<=d)(fT:d<k'.top)(hI:k'.g.I d=none)(q:OR W (k'.g.more (a,d)) k'.h a d o):Rl W (σ.alloc o) ⟨k'.g.more (a,d),k'.loc,k'.s⟩:=by
 refine ⟨l.ag,λj y hy=>?_,?_,?_,λz hz=>?_,λj y hy=>?_⟩
 ·by_cases h:j=σ.next
  ·subst h;obtain rfl:=oj (KW.symm.trans hy);exact ax a d (Gh.w7 (l.lU▸rl.new)) q
  ·rw [D4 h] at hy;exact aG (rl.obj j y hy) λa' d' H M=>ax a' d' ((l.le.trans Gh.tC:k.g.Le (k'.g.more (a,d))).at H) (M.mono (l.le.trans Gh.tC:k.g.Le (k'.g.more (a,d))) l.ag (l.ext.kept _) rl.ag)
 ·show List.Pairwise _ (k'.g.more (a,d)).ρ;rw [(by refine l.lU▸?_;rfl:(k'.g.more (a,d)).ρ=k.g.ρ++[(a,d)]),List.pairwise_append];refine bx rl.sep (List.pairwise_singleton ..) (λz hz y hy=>?_);obtain rfl:=sE hy;exact Nat.ne_of_lt (lL (rl.d8 z hz).2 hd)
 ·show(k'.g.more (a,d)).ρ.length=σ.next+1;refine (by refine l.lU▸?_;rfl:(k'.g.more (a,d)).ρ=k.g.ρ++[(a,d)]).symm▸List.length_append.symm▸rl.new.symm▸?_;rfl
 ·have hz:z∈(k'.g.more (a,d)).ρ:=hz;replace hz:=(by refine l.lU▸?_;rfl:(k'.g.more (a,d)).ρ=k.g.ρ++[(a,d)])▸hz;rcases pE hz with hz|hz
  ·exact ⟨l.quiet _ (rl.d8 z hz).2 (rl.d8 z hz).1,lL (rl.d8 z hz).2 l.ext.size⟩
  ·obtain rfl:=sE hz;exact ⟨hI,fT⟩
 ·show j<σ.next+1;by_cases h:j=σ.next
  ·refine h.symm▸?_;exact Nat.lt_succ_self _
  ·exact Nat.lt_succ_of_lt (rl.top j y ((D4 h).symm.trans hy))
def Lf.more (l:Lf k k'){a d:Addr}(hd:k.top<=d):Go bP bP k ⟨k'.g.more (a,d),k'.loc,k'.s⟩:=⟨l.ext.rest,l.ext.size,l.le.trans Gh.tC,λb hb e=>.inl (l.quiet b hb e),λz hz=>(pE hz).imp (λw=>l.lU▸w) λw=>by obtain rfl:=sE w;exact hd,λb o e _=>.inl (l.ext.kept b o e)⟩
def aL.alloc (a:aL c aI aC x k)(l:Lf k k'){p d:Addr}{o:O}(hd:k.top<=d)(fT:d<k'.top)(hI:k'.g.I d=none)(q:OR W (k'.g.more (p,d)) k'.h p d o):aL c aI aC (x.alloc o) ⟨k'.g.more (p,d),k'.loc,k'.s⟩:=by have g:=l.more (a:=p) hd;have f:=a.inv.fr.go g l.loc (λ_ _ w=>w) λ_ _ w=>w;exact ⟨⟨g.tk a.inv.tk,λb o w=>g.le.I b o (a.inv.top b o w),a.inv.rl.alloc l hd fT hI q,f.sc,f.ns,f.var,f.jx,f.dY,f.gX,f.inj⟩,a.go.trans g (λ_ w _=>w.elim) λ_ w _=>w,λb w=>a.own b (by exact (qx (k':=⟨k'.g.more (p,d),k'.loc,k'.s⟩) l.loc)▸w)⟩
def aL.newList (a:aL c aI aC x k){T:List Value}{xs:List V}(r:aO W.w k.g xs T):aL c aI aC (x.alloc (.list xs)) ⟨k.g.more (k.top,k.top),k.loc,{k.s with heap:=k.h.push (lobj T.toArray 0)}⟩:=a.alloc (.dZ a.inv.ag (.push _)) (nR _) (by show k.top<(k.h.push (lobj T.toArray 0)).objs.size;rw [Heap.size_push];exact Nat.lt_succ_self _) (a.inv.ag.none (nR _)) ⟨rfl,_,0,eR rfl,r.mono Gh.tC⟩
def aL.newDict (au:Tp W)(a:aL c aI aC x k):aL c aI aC (x.alloc (.dict [])) ⟨k.g.more (k.top,k.top),k.loc,{k.s with heap:=k.h.push {cls:=.type "dict",data:=.dict #[]}}⟩:=a.alloc (.dZ a.inv.ag (.push _)) (nR _) (by show k.top<(k.h.push _).objs.size;rw [Heap.size_push];exact Nat.lt_succ_self _) (a.inv.ag.none (nR _)) ⟨rfl,(Mine.newDict au a.inv).mono Gh.tC λ_ w=>w⟩
def CM (W:Wd)(n:Nat)(e:Expr)(x:X)(lv:LV)(x':X):Prop:=∀(c:Cx W n)(y:Str)(q pos:Pos) k,Inv c x k->x'.has y=true->wpAny (Md W.w) c.A (exec (.Assign [.Name y q] e pos) c.env) (iH c x k .next (x'.put y lv)) aA k.s
def yf (W:Wd)(n:Nat)(f:bp):Prop:=∀{e:Expr}{x:X}{Z:LV->X->Kt}{r:LV×St},f e x Z=some r->∃lv x',Z lv x'=some r/\CM W n e x lv x'
def cZ.HY {e:Expr}(E:cZ W n e x lv x'){y:Str}{q pos:Pos}(hs:swapsWith e (some (.Name y q)) pos.line c.env=pure false)(p:Inv c x k)(Y:x'.has y=true):wpAny (Md W.w) c.A (exec (.Assign [.Name y q] e pos) c.env) (iH c x k .next (x'.put y lv)) aA k.s:=wpAny_Assign_Name ((E c k p).use λu k₁ w=>wpAny_mono (zz p w.1 w.2 Y) (λ_ s fm=>c9 fm λg l z=>(ax g l z rfl)) λ_ _ z=>z) hs
def cZ.asg {e:Expr}(E:cZ W n e x lv x')(hs:∀(env:Env)(y:Str)(q:Pos)(line:Nat),swapsWith e (some (.Name y q)) line env=pure false):CM W n e x lv x':=λc y q pos k p Y=>E.HY (hs ..) p Y
def pA.ev {elt tg it:Expr}{ifs:List Expr}{sc:Scope}{pos:Pos}{T:List V}{σ':St}(E:pA W n elt tg it ifs sc x T x₁ σ'):cZ W n (.ListComp elt [⟨tg,it,ifs,0⟩] sc pos) x (.ml T) (x₁.at σ'):=λc k p=>by exact E.walk p λD C k₁ k' a m=>aM m.ns λmm hm=>af mm hm (λh' hs=>(dB _ _ (m.got p a hs)))
def pA.Qq {elt tg it:Expr}{ifs:List Expr}{sc:Scope}{lK:Pos}{T:List V}{σ':St}(E:pA W n elt tg it ifs sc x T x₁ σ'){y:Str}{q pos:Pos}(hs:swapsWith (.ListComp elt [⟨tg,it,ifs,0⟩] sc lK) (some (.Name y q)) pos.line c.env=pure true)(p:Inv c x k)(Y:(x₁.at σ').has y=true):
  wpAny (Md W.w) c.A (exec (.Assign [.Name y q] (.ListComp elt [⟨tg,it,ifs,0⟩] sc lK) pos) c.env) (iH c x k .next ((x₁.at σ').put y (.ml T))) aA k.s:=by
 refine (exec_Assign_Name_used _ _ _ _ hs).symm▸(wpAny_bind (wpAny_standAt (wpAny_bind (wpAny_bind (wpAny_mono (E.walk (Q:=λ_ s=>iH c x k .next ((x₁.at σ').put y (.ml T)) .next s) p λD C k₁ k' a m=>?_) (λ_ s hq=>wpAny_pure (wpAny_pure hq)) λ_ _ z=>z)))));have jU:∀{d:Addr},k₁.top<=d->¬bR c.env (x₁.at σ') k' d:=λhd w=>by rw [we m.loc] at w;exact a.inv.jU hd w
 refine wpAny_assign_Name ((m.inv.store Y (lv:=.ml T) ⟨rfl,m.acc⟩ λ_=>(bx m.qe.1 (a.inv.base m.qe.2) (jU m.qe.2))).use λ_ k₂ w=>bc λpH=>jm w λw1 w2 w3 w4=>aM (w5 m.ns (wZ w3 m.dY.1 λz=>jU m.dY.2 z.bR)) λmm hn=>pH (af mm hn (λh' sb=>?_)));obtain ⟨inv,g⟩:=w1.but ⟨(ax _ _ (nR _) rfl),Nat.le_of_eq sb.1.symm,λb o hb z=>(sb.2 b hb).trans z⟩ (w2▸m.dY.1) (λz=>(w4 C z).elim (jU m.dY.2) λz=>m.ne z.2:¬bR c.env ((x₁.at σ').put y (.ml T)) k₂ C);have a':aL c x k (x₁.at σ') k':=⟨m.inv,a.go.trans m.go (λ_ z _=>z.elim) λ_ z _=>z,λb z=>a.own b (by rw [qx m.loc] at z;exact z)⟩
 refine ax k₂.g k₂.loc ⟨inv,(a'.toS.go.trans w3 (λ_ z _=>z.elim) λb z _=>kQ z.bR a'.own).trans g (λ_ z _=>z.elim) λb z hb=>absurd hb (by refine z.symm▸?_;exact gW (nT a.go.size m.dY.2)),λb z=>?_⟩ rfl;rcases w4 b z with z|⟨_,rfl⟩
 ·exact .inl (kQ z a'.own)
 ·exact .inr (nT a.go.size m.qe.2)
def pA.asg {elt tg it:Expr}{ifs:List Expr}{sc:Scope}{lK:Pos}{T:List V}{σ':St}(E:pA W n elt tg it ifs sc x T x₁ σ'):CM W n (.ListComp elt [⟨tg,it,ifs,0⟩] sc lK) x (.ml T) (x₁.at σ'):=λc y q pos k p Y=>by
 have hb:∃b,swapsWith (.ListComp elt [⟨tg,it,ifs,0⟩] sc lK) (some (.Name y q)) pos.line c.env=pure b:=⟨_,rfl⟩;refine aM hb λb hb=>?_
 induction b with
 |true=>exact E.Qq hb p Y
 |false=>exact E.ev.HY hb p Y
variable{f:bp} {call:hU} {new:km}
def Qr (F:bM W n f)(aK:eG f)(F':bM W n (qT call new f)):yf W n (qT call new f):=by
 intro e x Z r h;have plain:=λhs=>by exact aG (F' h) λlv x' h E=>ax lv x' h (E.asg hs)
 cases e with
 |ListComp elt gens sc q=>refine bc λpL=>fS h λg hg ha h=>?_;obtain rfl:=ja hg;obtain ⟨tg,it,ifs,as⟩:=g;obtain rfl:=bE ha;exact Cf (EW F aK h) λT x₁ σ' h E=>pL (ax _ _ h E.asg)
 |SetComp _ _ _ _=>exact bD h
 |DictComp _ _ _ _ _=>exact bD h
 |_=>exact plain λ_ _ _ _=>rfl
end
def zl (T:List (Str×V))(n:Str)(v:V)(y:Str):(mQ T n v).lookup y=if y=n then some v else T.lookup y:=D_ (λ_ _=>rfl) (λ_ _ _ _ _=>rfl) T n v y
section
variable{W:Wd} {n:Nat} {c:Cx W n} {x x' aI x₁:X} {k k' aC k₁:az} {lv:LV} {fl:Fl} {r:LV×St} {Z:Fl->X->Kt} {f:bp}
def aL.bd (a:aL c aI aC x k)(b:Bd c x k x' k'):fL c aI aC x' k':=⟨b.inv,a.toS.go.trans b.go (λ_ z _=>z.elim) λz w _=>kQ w.bR a.own,λz w=>.inl (kQ (b.own z w) a.own)⟩
def aL.BM (a:aL c aI aC x k){σ':St}{u:Value}(q:uf W k lv σ' u k'):aL c aI aC (x.at σ') k':=⟨⟨q.go.tk a.inv.tk,λb o z=>q.go.le.I b o (a.inv.top b o z),q.rl,by have f:=a.inv.fr.go q.go q.loc (λ_ _ z=>z) λ_ _ z=>z;exact ⟨f.sc,f.ns,f.var,f.jx,f.dY,f.gX,f.inj⟩⟩,a.go.trans q.go (λ_ z _=>z.elim) λ_ z _=>z,λb z=>a.own b (by exact (qx q.loc)▸z)⟩
def Ld {m:Str}{e yg:Expr}(h:qU m e=some yg):∃q,e=.List [yg] q:=by
 delta qU at h;generalize hb:EL m=z_;induction z_ with
 |false=>replace h:=hb▸h;exact aF h
 |true=>
  replace h:=hb▸h
  cases e with
  |List S q=>exact ⟨q,congrArg (λl=>Expr.List l q) (ja h)⟩
  |_=>exact bD h
def Lg (F:bM W n f)(aK:eG f)(FA:yf W n f){m:Str}{q pos:Pos}{e:Expr}(h:tq f m e x Z=some r):∃fl x',Z fl x'=some r/\iI W n (.Assign [.Name m q] e pos) x fl x':=by
 delta tq at h;generalize hr:qU m e=z_;induction z_ with
 |none=>replace h:=hr▸h;exact bc λdK=>bc λjt=>aG (FA h) λlv x₁ h E=>ay (bK h) λY h=>jt (dK (ax _ _ h (λc k p=>E c m q pos k p Y)))
 |some yg=>rw [hr] at h;refine bc λuU=>?_;(refine aM (Ld hr) λlp iF=>?_;subst iF);replace h:iv f [yg] x (λT x=>(one T).bind λv=>guard (x.has m) (Z .next ((x.alloc (.list [v])).put m (.val (.obj x.st.next)))))=some r:=h;refine aw (mx F aK h) λT x₁ h E _=>fS h λv H Y M=>?_;obtain rfl:=ja H;refine uU ?_;refine ax _ _ M (λc k p=>wpAny_Assign_Name (wpAny_List ((E c lp k p).use λus k₁ q=>⟨by refine q.2.length▸?_;exact (nl rfl),?_⟩)));exact wpAny_mono (zz p (q.1.newList q.2) (.val (.obj (Gh.w7 q.1.inv.rl.new))) Y) (λ_ s jr=>c9 jr λg l z=>(ax g l z rfl)) λ_ _ z=>z
def KZ (F:bM W n f){S:List Expr}{j:Nat}{q pos:Pos}{e:Expr}(ht:t9 e=false)(h:zM f (.Tuple S j q) e x Z=some r):∃fl x',Z fl x'=some r/\iI W n (.Assign [.Tuple S j q] e pos) x fl x':=by
 refine aG (dD F h) λv x₁ h E=>fS h λbs hb hh h=>ax _ _ h (λc k p=>?_);have e1:swapsWithSole [.Tuple S j q] e pos.line c.env=pure false:=by cases e<;>rfl
 have e2:swappedStores [.Tuple S j q] e c.env=pure none:=by cases e<;>first|rfl|exact d7 ht
 rw [arm_exec_Assign,e1,e2];exact wpAny_bind (wpAny_standAt (wpAny_bind (wpAny_pure (wpAny_bind ((E c k p).use λu k₁ w=>wpAny_bind (wpAny_pure (wpAny_bind (wpAny_mono (zy w.1.inv hb hh w.2) (λ_ s pL=>c9 pL λg l b=>wpAny_pure (ax g l (w.1.bd b) rfl)) λ_ _ z=>z))))))))
def Lh {g:Gh}{fs:List (Str×V)}{f:Str->Option Value}{m:Str}{v:V}{u:Value}(h:wY W g fs f)(hv:VR W.w g v u):wY W g (mQ fs m v) λy=>if y=m then some u else f y:=λy=>by
 by_cases e:y=m
 ·exact .inr (aD v u ((zl ..).trans (if_pos e)) (if_pos e) hv)
 ·exact (h y).elim (λeY=>ay eY λa b=>(.inl ⟨((zl ..).trans (if_neg e)).trans a,(if_neg e).trans b⟩)) (λeV=>aw eV λv' u' a b z=>(.inr (aD v' u' (((zl ..).trans (if_neg e)).trans a) ((if_neg e).trans b) z)))
def EX (au:gh W)(a:aL c aI aC x k){av v:V}{p:Nat×Str×List (Str×V)}{u uv:Value}{m:Str}(hi:jC x.st (.val av)=some p)(hf:je m=true)(ra:VR W.w k.g av u)(rv:VR W.w k.g v uv):
  wpAny (Md W.w) c.A (setAttr u m uv) (λ_ s=>iH c aI aC .next (x.iQ p.1 (.inst p.2.1 (mQ p.2.2 m v))) .next s) aA k.s:=by
 refine bc λpN=>ay (zi hi) λe hg=>?_;(injection e with q_;subst q_);(refine mI (Ao a.inv.rl hg ra) λad d f dn hj hI ir fr=>?_;subst dn);refine aq ir.obj λo H M=>pN ?_;exact au.cls.store hf a.inv.g_ ir λh' t ht ns sb=>⟨k.g,k.loc,(a.BM (a.inv.rl.iQ (ht:=(by assumption)) (o':=.inst p.2.1 (mQ p.2.2 m v)) hj hg sb ⟨hI,_,⟨ir.known,(af o ((sb.2 _ (Ne.symm ir.apart)).trans H) M),ir.apart,ns,λy q=>by
  by_cases e:y=m
  ·exact e▸hf
  ·rw [if_neg e] at q;exact ir.only y q⟩,Lh fr rv⟩)).toS,rfl⟩
def K0 (au:gh W){e:Expr}{o:O}(h:sR e=some o)(p:Inv c x k):wpAny (Md W.w) c.A (eval e c.env) (λu s=>∃g l,aL c x k (x.alloc o) ⟨g,l,s⟩/\VR W.w g (.obj x.st.next) u) aA k.s:=by
 have a:=aL.refl p;have ob {p':Addr×Addr}:(k.g.more p').ρ[x.st.next]?=some p':=Gh.w7 p.rl.new
 cases e with
 |List S q=>
  cases S with
  |nil=>obtain rfl:=oj h;exact wpAny_List (wpAny_items_nil ⟨nl rfl,_,_,a.newList .nil,.obj ob⟩)
  |cons e S=>
   cases S with
   |cons=>exact bD h
   |nil=>
    cases e with
    |Constant cc z q=>
     induction cc with
     |none=>obtain rfl:=oj h;exact wpAny_List (wpAny_items_cons (wpAny_Constant_none (wpAny_items_nil ⟨nl rfl,_,_,a.newList (.cons .none .nil),.obj ob⟩)) rfl)
     |_=>exact bD h
    |_=>exact bD h
 |Dict G T q=>refine ay (bK h) λH M=>?_;obtain rfl:=oj M;obtain ⟨M,h3⟩:=iD H;obtain rfl:=List.isEmpty_iff.mp M;obtain rfl:=List.isEmpty_iff.mp h3;exact wpAny_Dict_empty (ax _ _ (a.newDict au.top) (.obj ob))
 |_=>exact bD h
def Li (F:bM W n f)(au:gh W){e v:Expr}{m:Str}{q pos:Pos}(h:tu f e m v x Z=some r):∃fl x',Z fl x'=some r/\iI W n (.Assign [.Attribute e m q] v pos) x fl x':=by
 have sw:∀env:Env,swapsWith v (some (.Attribute e m q)) pos.line env=pure false:=λenv=>by cases v<;>rfl
 delta tu at h;generalize hd:sR v=z_;induction z_ with
 |some o=>replace h:=hd▸h;refine bc λum=>bc λBN=>bc λdK=>aG (dD F h) λa x₁ h E=>?_;obtain ⟨p,hi,h⟩:=oB h;exact ay (bK h) λhf h=>dK (BN (um (ax _ _ h (λc k pr=>plainObj_wpAny_Assign_Attribute (wpAny_mono (K0 au hd pr) (λu s ug=>aG ug λg l a ru=>(E.use a).use λua k₁ w=>EX au w.1 hi hf w.2.2 (ru.mono w.2.1)) λ_ _ z=>z) (sw _)))))
 |none=>rw [hd] at h;exact bc λUA=>bc λuo=>aG (dD F h) λv' x₁ h E=>aG (dD F h) λa bF h eX=>aH h λp hi h=>ay (bK h) λhf h=>uo (UA (ax _ _ h (λc k pr=>plainObj_wpAny_Assign_Attribute ((E c k pr).use λu k₁ w=>(eX.use w.1).use λua k₂ w'=>EX au w'.1 hi hf w'.2.2 (w.2.mono w'.2.1)) (sw _))))
end
section
variable{W:Wd} {n:Nat} {c:Cx W n} {x x' aI x₁:X} {k k' aC k₁:az} {lv:LV} {fl:Fl} {r:LV×St} {Z:Fl->X->Kt} {f:bp}
def Lj {σ:St}{p:Nat×List (V×V)}(h:dictOf σ lv=some p):lv=.val (.obj p.1)/\σ.get p.1=some (.dict p.2):=by
 refine aH h λj H M=>?_;obtain rfl:lv=.val (.obj j):=zq H;generalize hg:σ.get j=z_;induction z_ with
 |none=>replace M:=hg▸M;exact aF M
 |some o=>
  rw [hg] at M
  induction o with
  |dict c=>(injection M with q_;subst q_);exact ⟨rfl,hg⟩
  |_=>exact bD M
def OH {A:Around}{s:Shared}{l:Addr}{z:Int}(hz:z=0){x:Value}{m:Nat}{t:Tok}{v:Value}{Q:Unit->Shared->Prop}(hl:s.heap.get? l=some (lobj #[x] m))
  (hQ:∀h' m',h'.get? l=some (lobj #[v] m')->Heap.SameBut l s.heap h'->Q () {s with heap:=h'}):wpAny (Md W.w) A (setItem (.ref l) (.int z t) v) Q aA s:=by
 refine wpAny_holding (wpAny_bind (wpAny_sequenceKey (Heap.IsList.typeIs ⟨_,hl,rfl,m,rfl⟩) (by decide) (wpAny_bind (wpAny_callSpecial?_slot (Heap.IsList.typeIs ⟨_,hl,rfl,m,rfl⟩) slot_list_setitem (wpAny_call_entry slot_list_setitem (Heap.IsList.typeIs ⟨_,hl,rfl,m,rfl⟩) entry_list_setitem ?_ (args_list_setitem _ _ _))))));show wpAny _ _ (Builtin.List.listSubscript? (.int z t)>>=_) _ _ s;refine wpAny_bind (wpAny_listSubscript_int (fitsIndex_of (by refine hz.symm▸?_;exact Int.le_refl _) (by refine hz.symm▸?_;decide)) ?_);subst hz;refine wpAny_bind (wpAny_bind (wpAny_seqItemAt hl rfl (wpAny_pure (aM (⟨_,rfl⟩:∃m',Obj.mapSeq (·.setIfInBounds 0 v) (lobj #[x] m)=lobj #[v] m') λm' e=>?_))));have at':=Heap.get?_update_self (Obj.mapSeq (·.setIfInBounds 0 v)) hl (by refine e.symm▸?_;rfl);have fin:=hQ _ _ at' (Heap.SameBut.update ..);refine wpAny_bind (wpAny_setSeqItemAt hl rfl ?_)
 first
  |exact wpAny_bind (wpAny_pure (wpAny_pure ⟨.none,rfl,wpAny_pure fin⟩))
  |exact wpAny_pure ⟨.none,rfl,wpAny_pure fin⟩
def WQ (W:Wd)(n:Nat)(av kv v:V)(x x':X):Prop:=∀{c:Cx W n}{aI:X}{aC k:az}{u ku uv:Value},aL c aI aC x k->VR W.w k.g av u->VR W.w k.g kv ku->VR W.w k.g v uv->
 wpAny (Md W.w) c.A (setItem u ku uv) (λ_ s=>iH c aI aC .next x' .next s) aA k.s
def OI {av kv v:V}(h:tw (.val av) kv v x Z=some r):∃x',Z .next x'=some r/\WQ W n av kv v x x':=by
 delta tw at h;generalize hd:dictOf x.st (.val av)=z_;induction z_ with
 |some p=>replace h:=hd▸h;refine aH h λS H M=>af _ M (λ{c aI aC k u ku uv} a ra rk rv=>bc λpU=>ay (Lj hd) λe hg=>?_);(injection e with q_;subst q_);(refine n9 (zw H) λd z1 z2 z3 Cy=>?_;subst Cy);(refine aG ra.tM λad X_ pV hj=>?_;subst pV);(refine aw (a.inv.rl.obj _ _ hg) λb b' g0 pW q=>?_;subst pW);(injection hj.symm.trans g0 with q_;injection q_ with q_ dq;subst q_;subst dq);exact pU (((q.road a.inv.ag c.units rk z1 z2).put rv z3 λh' t ht q' sb=>(ax k.g k.loc ((a.BM (a.inv.rl.iQ (ht:=(by assumption)) (o':=.dict (hF d kv v p.2)) hj hg sb ⟨rfl,q'⟩)).toS) rfl)).1)
 |none=>
  replace h:=hd▸h;refine Cq h λp w i H M h3 h=>?_;obtain ⟨h4,h5⟩:=bK h;refine af _ h5 (λ{c aI aC k u ku uv} a ra rk rv=>bc λUB=>ay (Ec H) λe hg=>?_);(injection e with q_;subst q_);obtain rfl:=fW h3;obtain rfl:=bE h4;(refine aM rk.da λt BO=>?_;subst BO);(refine aG ra.tM λad X_ BP hj=>?_;subst BP);(refine aw (a.inv.rl.obj _ _ hg) λb b' g0 xP q=>?_;subst xP);(injection hj.symm.trans g0 with q_;injection q_ with q_ dq;subst q_;subst dq);obtain ⟨⟨T⟩,m,q1,q2⟩:=q;replace q2:=(ja M)▸q2;refine aw q2.cons_of λw' ws e _ hn=>?_
  cases hn.nil_of
  obtain rfl:=e;exact UB (OH rfl q1 λh' m' e sb=>ax k.g k.loc ((a.BM (a.inv.rl.iQ (ht:=(nR _)) (o':=.list [v]) hj hg sb ⟨rfl,#[uv],m',e,.cons rv .nil⟩)).toS) rfl)
def EY {m:Str}{p:Str×List (V×V)}(h:yb x m=some p):p.1=m/\x.has m=true/\x.vars.lookup m=some (.md p.2):=by
 refine yE h λS H M h=>?_;obtain rfl:=oj h;refine bx rfl H ?_;generalize hl:x.vars.lookup m=z_;induction z_ with
 |none=>replace M:=hl▸M;exact aF M
 |some lv=>
  replace M:=hl▸M
  induction lv with
  |md S=>obtain rfl:=oj M;rfl
  |_=>exact bD M
def EZ {m:Str}{p:Str×List V}(h:uJ x m=some p):p.1=m/\x.has m=true/\x.vars.lookup m=some (.ml p.2):=by
 refine yE h λS H M h=>?_;obtain rfl:=oj h;refine bx rfl H ?_;generalize hl:x.vars.lookup m=z_;induction z_ with
 |none=>replace M:=hl▸M;exact aF M
 |some lv=>
  replace M:=hl▸M
  induction lv with
  |ml S=>obtain rfl:=oj M;rfl
  |_=>exact bD M
def Inv.own (p:Inv c x k){m:Str}{q:Pos}(Y:x.has m=true){iG:LV}(H:x.vars.lookup m=some lv)(M:lv.set=some iG){Q:Value->Shared->Prop}
  (h:∀u,LR W k.g k.h (some u) (k.loc m) lv->Q u k.s):wpAny (Md W.w) c.A (eval (.Name m q) c.env) Q aA k.s:=by
 have hv:iN (x.sc.lookup m)=true:=by obtain ⟨h|h,_⟩:=zQ Y<;>refine h.symm▸?_<;>rfl
 obtain ⟨_,u,l,ld⟩:=p.fr.load hv H M;exact wpAny_Name (ld (h u l)) (wI p.fr hv c.fs.iY)
def LR.xt {g:Gh}{h:Heap}{ov:Option Value}{b:Addr}(l:LR W g h ov b lv)(ho:lv.own=true):ov=some (.ref b):=by cases lv<;>first|exact absurd ho gi|exact l.1
def aL.HZ (p:Inv c aI aC)(a:aL c aI aC x k){m:Str}{ui:LV}(Y:aI.has m=true)(h0:aI.vars.lookup m=some ui)(o0:ui.own=true)(H:x.vars.lookup m=some lv)(o1:lv.own=true):k.loc m=aC.loc m:=by
 refine bc λUC=>aq (p.fr.var m _ h0) λov a0 l0=>aq (a.inv.fr.var m _ H) λZn a1 l1=>?_;obtain rfl:=l0.xt o0;obtain rfl:=l1.xt o1;refine UC ?_;have a0:=a0.mono (λo z=>(a.go.kept _ o z p.fr.jx.1.2).resolve_right id) λq hq o z=>(a.go.kept _ o z (p.fr.dY q hq).1.2).resolve_right id;have hk:=(zQ Y).1;rw [p.fr.sc] at hk;unfold At at a0 a1;rcases hk with hk|hk
 ·rw [c.fs.lk m hk] at a0 a1;exact aq a0 λm0 n0 e0=>aq a1 λm1 n1 e1=>Value.ref.inj (oj (e1.symm.trans ((HQ n1 n0 m).trans e0)))
 ·rw [c.fs.ck m hk] at a0 a1;obtain ⟨b0,d0,o0,z0,y0⟩:=a0;obtain ⟨b1,d1,o1,z1,y1⟩:=a1;obtain rfl:=oj (d0.symm.trans d1);obtain rfl:=oj (z0.symm.trans z1);exact Value.ref.inj (oj (Data.cell.inj (y1.symm.trans y0)))
def L6 (F:bM W n f){e i v:Expr}{q pos:Pos}(h:AL f e i v x Z=some r):∃fl x',Z fl x'=some r/\iI W n (.Assign [.Subscript e i q] v pos) x fl x':=by
 have sw:∀env:Env,swapsWith v (some (.Subscript e i q)) pos.line env=pure false:=λenv=>by cases v<;>rfl
 refine aG (dD F h) λv' x₁ h E=>?_;generalize ho:xJ x₁ e=z_;induction z_ with
 |none=>replace h:=ho▸h;refine bc λUD=>aG (dD F h) λa bF h eX=>aG (dD F h) λj I2 h pR=>aq (OI (W:=W) (n:=n) h) λx' h P=>UD ?_;exact ⟨_,_,h,λc k pr=>wpAny_Assign_Subscript ((E c k pr).use λu k₁ w=>(eX.use w.1).use λua k₂ kD=>(pR.use kD.1).use λuj rS yh=>P yh.1 (kD.2.2.mono yh.2.1) yh.2.2 ((w.2.mono kD.2.1).mono yh.2.1)) (sw _)⟩
 |some p=>replace h:=ho▸h;refine bc λUE=>aH ho λm hm hp=>?_;(refine aM (qw hm) λnp um=>?_;subst um);refine ef (EY hp) λe Y hl=>aG (dD F h) λj bF h eX=>jS h λp' S yJ H M=>?_;rw [e] at yJ M;refine ef (EY yJ) λe' Zo jy=>?_;(refine n9 (zw H) λd z1 z2 z3 BN=>?_;subst BN);refine UE (ax _ _ M (λc k pr=>wpAny_Assign_Subscript ((E c k pr).use λu k₁ w=>w.1.inv.own Y hl rfl λua l=>(eX.use (.refl w.1.inv)).use λuj k₂ kD=>?_) (sw _)));obtain rfl:=oj (l.xt rfl);refine (kD.1.HZ w.1.inv Y hl rfl jy rfl)▸(aq (kD.1.inv.fr.var m _ jy) λov _ l'=>?_);exact ((l'.2.road kD.1.inv.ag c.units kD.2.2 z1 z2).put (w.2.mono kD.2.1) z3 λh' t ht q' sb=>⟨k₂.g,k₂.loc,(w.1.trans kD.1).toS.trans (kD.1.inv.grow (ht:=(by assumption)) jy rfl rfl sb ⟨rfl,q'⟩),rfl⟩).1
def Qs (F:bM W n f){m:Str}{op:Operator}{e:Expr}{q pos:Pos}(h:Br f m op e x Z=some r):∃fl x',Z fl x'=some r/\iI W n (.AugAssign (.Name m q) op e pos) x fl x':=by
 refine ay (bK h) λhv ha=>?_;refine aH ha λlv H hb=>aH hb λa M hc=>aH hc λi h3 hd=>aG (dD F hd) λb x₁ he E=>aH he λj h4 hg=>aH hg λz h5 hi=>?_;obtain ⟨Y,hj⟩:=bK hi;have oF:lv=.val (.int i):=by refine (fW h3)▸?_;cases lv<;>first|(obtain rfl:=oj M;rfl)|exact aF M
 rw [oF] at H;rw [fW h4] at E;clear h ha hb hc hd he hg hi;refine ax _ _ hj (λc k pr=>?_);obtain ⟨_,u,l,ld⟩:=pr.fr.load hv H rfl;refine wpAny_AugAssign_Name (ld ((E c k pr).use λub k₁ w=>aq l λ_ e l=>?_));obtain rfl:=oj e;obtain ⟨t,rfl⟩:=l.da;obtain ⟨t',rfl⟩:=w.2.da;have st:wpAny (Md W.w) c.A (storeName c.env m (.int z k₁.s.toks)) (λ_ s=>iH c x k .next (x₁.put m (.val (.int z))) .next s) aA (k₁.tok (k₁.s.toks+1)).s:=wpAny_mono (zz pr (w.1.lf (w.1.inv.tok (h:=(lS _)) _)) (.val (.int _ _)) Y) (λ_ s UG=>c9 UG λg l z=>(ax g l z rfl)) λ_ _ z=>z
 induction op with
 |Add=>(injection h5 with q_;subst q_);exact PyProof.Rows.iadd_int st
 |BitOr=>(injection h5 with q_;subst q_);exact PyProof.Rows.ior_int st
 |_=>exact bD h5
end
section
variable{W:Wd} {n:Nat} {c:Cx W n} {x x' aI x₁:X} {k k' aC k₁:az} {lv:LV} {fl:Fl} {r:LV×St} {Z:Fl->X->Kt} {f:bp}
def Lk {A:Around}{s:Shared}{g:Gh}{l:Addr}{xs ys:List V}{u:Value}(ag:g.In s.heap)(hl:fh W.w g s.heap l xs)(hv:VR W.w g (.list ys) u)(hf:xs.length+ys.length<=1048576){Q:Value->Shared->Prop}
  (hq:∀h',fh W.w g h' l (xs++ys)->Heap.SameBut l s.heap h'->Q .none {s with heap:=h'}):wpAny (Md W.w) A (PySem.call (.builtin "list.extend") [.ref l,u]) Q aA s:=by
 refine bc λcx=>aG hl λT m hl r=>?_;obtain ⟨b,rfl,us,m2,hb,r2⟩:=hv.kU ag;obtain ⟨m',e⟩:∃m',Obj.mapSeq (·++us) (lobj T m)=lobj (T++us) m':=⟨_,rfl⟩;refine cx ?_;have at':=Heap.get?_update_self (Obj.mapSeq (·++us)) hl (by rw [e];rfl);rw [e] at at';have hsz:T.size+us.size<=sizeLine:=by refine j8.symm▸r.eD▸r2.eD▸?_;exact nT ‹_› (nl rfl)
 exact call_meets PySem.F.slot_list_extend (af _ hl rfl) PySem.F.entry_list_extend (PySem.F.args_list_extend_2 _ _) (AutoSeq1.list_extend_list_list_0 l T m b us m2 (extend_door hsz) (nT (lA _ _) hsz) (lB hsz)) (bx hl hb (hq _ (ax _ m' at' (by refine Array.toList_append.symm▸?_;exact r.append r2)) (Heap.SameBut.update ..)))
def K1 {e:Expr}{o:IV}(h:ownCall x e=some o):∃np apos pos xs,e=.Call (.Attribute (.Name o.n np) o.m apos) [o.arg] [] pos/\x.has o.n=true/\x.vars.lookup o.n=some (.ml xs)/\(apos.endLine==pos.line)=true:=by
 cases e with
 |Call fn as oA pos=>
  cases fn with
  |Attribute y m apos=>refine Cr h λp a H M h3 h4=>?_;obtain ⟨h5,h6⟩:=iD h3;refine aH H λnm h7 h8=>?_;obtain ⟨np,rfl⟩:=qw h7;refine ef (EZ h8) λe Y hl=>?_;obtain rfl:=oj h4;obtain rfl:=List.isEmpty_iff.mp h5;obtain rfl:=ja M;subst e;exact kh np apos pos _ rfl Y hl h6
  |_=>exact bD h
 |_=>exact bD h
def Grows (W:Wd)(n:Nat)(m mU:Str)(v:V)(xs ys:List V):Prop:=∃id,(∀{c:Cx W n}{k:az}{b:Addr}{ws:List V}{pl:Sem Bool}{Q:Value×List Value->Shared->Prop},fh W.w k.g k.h b ws->Q (.builtin id,[.ref b]) k.s->wpAny (Md W.w) c.A (getMethod (.ref b) mU pl) Q aA k.s)/\
 ∀{c:Cx W n}{k:az}{b:Addr}{u:Value}{Q:Value->Shared->Prop},k.g.In k.h->fh W.w k.g k.h b xs->VR W.w k.g v u->(∀h',fh W.w k.g h' b ys->Heap.SameBut b k.h h'->Q .none {k.s with heap:=h'})->wpAny (Md W.w) c.A (PySem.call (.builtin id) [.ref b,u]) Q aA k.s
def L7 {m mU:Str}{v:V}{xs ys:List V}(h:grown mU xs v=some ys):Grows W n m mU v xs ys:=by
 delta grown at h;generalize H:(mU==eL)=z_;induction z_ with
 |true=>replace h:=H▸h;refine ay (bK h) λM h3=>?_;obtain rfl:=oj h3;obtain rfl:=bE H;exact af _ (λ{c k b ws pl Q} q hq=>DW (xs:=ws) (by refine aG q λT i q _=>?_;exact (dB T i q)) hq) (λag l rv hq=>zj l rv (fit_le M) hq)
 |false=>
  replace h:=H▸h;generalize M:(mU==oU)=z_;induction z_ with
  |false=>replace h:=M▸h;exact aF h
  |true=>replace h:=M▸h;refine fS h λzs h3 h4 h5=>?_;obtain rfl:=oj h5;obtain rfl:=bE M;obtain rfl:=wj h3;exact ⟨"list.extend",λq hq=>by refine aG q λT i q _=>?_;exact getMethod_builtin (af _ q rfl) PySem.F.plainAttrs_list PySem.F.slot_list_extend PySem.F.type_list_extend (λa e=>by(injection e with q_;subst q_);exact ⟨_,q,rfl⟩) hq,λag l rv hq=>Lk ag l rv (fit_le h4) hq⟩
def DU:interactive c.env=false:=by delta interactive;refine c.fs.kind.symm▸?_;rfl
def OJ (F:bM W n f)(aK:eG f){e:Expr}{pos:Pos}(h:tL f e x Z=some r):∃fl x',Z fl x'=some r/\iI W n (.Expr e pos) x fl x':=by
 delta tL at h;generalize ho:ownCall x e=z_;induction z_ with
 |none=>
  replace h:=ho▸h;refine ay (bK h) λhc h=>aG (F h) λlv x₁ h E=>fS h λv H M h3=>?_;have oF:lv=.val v:=by cases lv<;>first|(obtain rfl:=oj H;rfl)|exact aF H
  subst oF;refine ax _ _ h3 (λc k pr=>wpAny_Expr ((E c k pr).use λu k₁ w=>?_) DU ?_)
  ·have fin:iH c x k .next x₁ .next k₁.s:=(ax k₁.g k₁.loc w.1.toS rfl);have rv:=w.2.fu
   cases v with
   |none=>cases rv.none_of;exact fin
   |int i=>(refine aM rv.da λt jr=>?_;subst jr);exact fin
   |_=>exact kH M
  ·cases e with
   |Call=>rfl
   |_=>exact kH hc
 |some o=>
  rw [ho] at h;refine bc λUH=>?_;(refine oe (K1 ho) λnp apos lK xs CG Y hl pX=>?_;subst CG);replace h:iv f [o.arg] x (λT x=>(one T).bind λv=>(uJ x o.n).bind λp=>(grown o.m p.2 v).bind λxs=>Z .next (x.put o.n (.ml xs)))=some r:=h;refine aw (mx F aK h) λT x₁ h E hp=>Cq h λv p ys H M h3 h4=>ef (EZ M) λ_ _ jy=>aq (L7 (W:=W) (n:=n) (m:=o.n) h3) λid gm run=>UH ?_;refine ax _ _ h4 (λc k pr=>wpAny_Expr (xr (by show(true&&decide (1<30)&&(apos.endLine==lK.line))=true;refine pX.symm▸?_;rfl) (hp c.env lK) (pr.own Y hl rfl λu l=>?_)) DU rfl);(injection l.xt rfl with q_;subst q_);refine gm (k:=k) l.2 (nH (hp c.env lK) (λhh gY=>(af .machine (.inr (.inl rfl)) .now)) ((E c lK k pr).use λus k₁ w=>⟨w.1.inv.g_,?_⟩));have w2:=w.2;replace w2:=(ja H)▸w2;(refine aw w2.cons_of λu _ WR rv hn=>?_;subst WR)
  cases hn.nil_of
  exact (w.1.HZ pr Y hl rfl jy rfl)▸(aq (w.1.inv.fr.var o.n _ jy) λov _ l'=>run w.1.inv.ag l'.2 rv λh' q' sb=>ax k₁.g k₁.loc (w.1.toS.trans (w.1.inv.grow (ht:=(nR _)) jy rfl rfl sb ⟨rfl,q'⟩)) rfl)
end
section
variable{W:Wd} {A:Around} {R:Result->Shared->Prop}
def Ll {tg:Expr}{it:Value}{b:List Stmt}{env:Env}(az:Nat->Shared->Prop)
  (turn:∀n s,az n s->wpAny (Md W.w) A (pyNext it) (λr s₁=>match r with
   |none=>R (.ok .next) s₁
   |some v=>wpAny (Md W.w) A (letOwnedTupleGo tg it v) (λ_ mA=>wpAny (Md W.w) A (assign tg env v) (λ_ bO=>wpAny (Md W.w) A (execs b env) (λf cR=>match f with
      |.next|.cont=>∃m,m<n/\az m cR
      |.brk=>False
      |.ret v=>R (.ok (.ret v)) cR) aA bO) aA mA) aA s₁) aA s)
  (n:Nat) {s:Shared} (h:az n s):codeAny (Md W.w) A (.forLoop tg it b [] env) R s:=by
 refine codeAny_forLoop_any az (λn s hK=>wpAny_mono (turn n s hK) (λr s₁ gQ=>?_) λ_ _ f=>f.elim) n h
 induction r with
 |none=>exact wpAny_execs_nil gQ
 |some v=>exact wpAny_mono gQ (λ_ mA h=>wpAny_mono h (λ_ bO h=>wpAny_mono h (λf cR h=>by cases f<;>first|exact h|exact h.elim) λ_ _ f=>f.elim) λ_ _ f=>f.elim) λ_ _ f=>f.elim
end
section
variable{W:Wd} {n:Nat} {c:Cx W n} {x x' aI x₁:X} {k k' aC k₁:az} {lv:LV} {fl iJ:Fl} {r:LV×St} {Z:Fl->X->Kt} {f:bp} {g:gj}
inductive kg (W:Wd)(n:Nat)(tg:Expr)(b:List Stmt):List V->X->Fl->X->Prop
 |nil {x:X}:kg W n tg b [] x .next x
 |next {v:V} {T:List V} {x x₁ x':X} {bs:List (Str×V)} {fl iJ:Fl}:j9 tg v=some bs->x.hasAll bs=true->lV W n b (x.h_ bs) fl x₁->fl=.next\/fl=.cont->kg W n tg b T x₁ iJ x'->kg W n tg b (v::T) x iJ x'
 |ret {v:V} {T:List V} {x x₁:X} {bs:List (Str×V)} {lv:LV}:j9 tg v=some bs->x.hasAll bs=true->lV W n b (x.h_ bs) (.ret lv) x₁->kg W n tg b (v::T) x (.ret lv) x₁
def OK (ai:mZ W n g){tg:Expr}{b:List Stmt}:∀{xs:List V}{x:X}{Z:Fl->X->Kt},qK (oV g tg b) xs x Z=some r->∃fl x',Z fl x'=some r/\kg W n tg b xs x fl x':=by
 intro z_
 induction z_ with
 |nil=>intro x Z h;exact ax _ x h .nil
 |cons v T ak=>
  intro x Z h;refine bc λbu=>fS h λbs H M h=>aG (tB ai h) λfl x₁ h E=>bu ?_
  induction fl with
  |next=>obtain ⟨iJ,x',h,R⟩:=ak h;exact ⟨_,_,h,.next H M E (.inl rfl) R⟩
  |cont=>obtain ⟨iJ,x',h,R⟩:=ak h;exact ⟨_,_,h,.next H M E (.inr rfl) R⟩
  |brk=>exact bD h
  |ret lv=>exact ax _ _ h (.ret H M E)
def kg.nil_of {tg:Expr}{b:List Stmt}(h:kg W n tg b [] x fl x'):fl=.next/\x=x':=by cases h;exact ⟨rfl,rfl⟩
def kg.cons_of {tg:Expr}{b:List Stmt}{v:V}{T:List V}(h:kg W n tg b (v::T) x fl x'):∃bs uq x₁,j9 tg v=some bs/\x.hasAll bs=true/\lV W n b (x.h_ bs) uq x₁/\
  (((uq=.next\/uq=.cont)/\kg W n tg b T x₁ fl x')\/∃lv,uq=.ret lv/\fl=.ret lv/\x'=x₁):=by
 cases h with
 |next a b d e f=>exact fB _ _ _ a b d (.inl ⟨e,f⟩)
 |ret a b d=>exact fB _ _ _ a b d (.inr (bX _ rfl rfl rfl))
structure FL (W:Wd)(n:Nat) where
 c:Cx W n
 tg:Expr
 b:List Stmt
 aI:X
 aC:az
 yi:Gh
 J:Addr
 P:Nat->Value->Prop
 Si:Nat->Heap->Prop
 xs:List V
 fl:Fl
 x':X
structure FI (L:FL W n)(i:Nat)(x:X)(k:az):Prop where
 qg:fL L.c L.aI L.aC x k
 it:L.Si i k.h
 my:My k.g L.J/\L.aC.top<=L.J/\L.J<k.top
 nm:¬bR L.c.env x k L.J
 le:L.yi.Le k.g
def xQ (L:FL W n)(m:Nat)(s:Shared):Prop:=∃i x k,k.s=s/\i+m=L.xs.length/\kg W n L.tg L.b (L.xs.drop i) x L.fl L.x'/\FI L i x k
variable{L:FL W n} {i j:Nat}
def FI.but (z:FI L i x k){s:Shared}(b:jW L.J k.s s):fL L.c L.aI L.aC x ⟨k.g,k.loc,s⟩:=by exact ay (z.qg.inv.but b z.my.1 z.nm) λinv g=>⟨inv,z.qg.go.trans g (λ_ q _=>q.elim) λb q hb=>absurd z.my.2.1 (q▸Nat.not_le.mpr hb),z.qg.own⟩
def FI.moved (z:FI L i x k){s:Shared}(b:jW L.J k.s s)(hS:L.Si j s.heap):FI L j x ⟨k.g,k.loc,s⟩:=⟨z.but b,hS,(bx z.my.1 z.my.2.1 (lL z.my.2.2 b.size)),z.nm,z.le⟩
def FI.turned (z:FI L i x k){fp:List Addr}(frame:∀i h h',L.Si i h->(∀b∈fp,∀o,h.get? b=some o->h'.get? b=some o)->L.Si i h')(gZ:∀b∈fp,b=L.J\/∃o,L.yi.I b=some o)
  (a:fL L.c x k x' k'):FI L i x' k':=by
 refine ⟨z.qg.trans a,frame _ _ _ z.it λb hb o q=>?_,(bx (z.my.1.go z.my.2.2 a.go z.nm) z.my.2.1 (lL z.my.2.2 a.go.size)),λq=>(a.own _ q).elim z.nm λq=>absurd z.my.2.2 (gW q),z.le.trans a.go.le⟩;rcases gZ b hb with rfl|⟨y,hy⟩
 ·exact wZ a.go z.my.1 z.nm o q
 ·have hI:=z.le.I b y hy;obtain rfl:=oj ((z.qg.inv.ag b y hI).symm.trans q);exact a.inv.ag b _ (a.go.le.I b _ hI)
def Bd.toS (b:Bd c x k x' k'):fL c x k x' k':=⟨b.inv,b.go.mono (λ_ z _=>z.elim) λ_ z _=>z.bR,λa q=>.inl (b.own a q)⟩
def UI (L:FL W n)(RR:Result->Shared->Prop)(m:Nat)(s:Shared):Prop:=wpAny (Md W.w) L.c.A (pyNext (.ref L.J)) (λr s₁=>match r with
   |none=>RR (.ok .next) s₁
   |some v=>wpAny (Md W.w) L.c.A (letOwnedTupleGo L.tg (.ref L.J) v) (λ_ mA=>wpAny (Md W.w) L.c.A (assign L.tg L.c.env v) (λ_ bO=>wpAny (Md W.w) L.c.A (execs L.b L.c.env) (λf cR=>match f with
      |.next|.cont=>∃m',m'<m/\xQ L m' cR
      |.brk=>False
      |.ret v=>RR (.ok (.ret v)) cR) aA bO) aA mA) aA s₁) aA s
def OL {u_ s₁:Shared}(it:oE W L.yi L.xs L.J L.P L.Si u_ s₁){fp:List Addr}(Wk:Walks pw W.w L.c.A L.J fp [L.J] L.xs.length L.P L.Si)(gZ:∀b∈fp,b=L.J\/∃o,L.yi.I b=some o)
  {RR:Result->Shared->Prop} (hR:∀f k',fL L.c L.aI L.aC L.x' k'->Dj L.c k' f L.fl->RR (.ok f) k'.s):∀m s,xQ L m s->UI L RR m s:=by
 rintro m _ ⟨i,x,k,rfl,JX,hl,z⟩;by_cases hm:m=0
 ·replace hl:=List.drop_length▸((Dc ‹_› ‹_›):i=L.xs.length)▸hl;(refine ay hl.nil_of λqh iw=>?_;subst iw);exact EU Wk (((Dc ‹_› ‹_›):i=L.xs.length)▸z.it) λs b=>hR .next ⟨k.g,k.loc,s⟩ (z.but b) (by refine qh.symm▸?_;rfl)
 ·have fT:i<L.xs.length:=(JF ‹_› ‹_›);rw [List.drop_eq_getElem_cons fT] at hl;refine eP hl.cons_of λbs uq x₁ hb hh E hl=>EV Wk fT z.it λv s hP hS b=>it.own hP hS (bc λWS=>?_);refine aq (it.item i v hP) λy vG sA=>?_;obtain rfl:=oj ((cM fT).symm.trans vG);refine WS (wpAny_mono (zy (z.moved b hS).qg.inv hb hh (sA.mono (z.moved b hS).le)) (λ_ s CN=>c9 CN λg l bd=>wpAny_mono (E.use bd.toS) (λfw s BQ=>aG BQ λg l a fr=>?_) λ_ _ q=>q) λ_ _ q=>q);have I7:=(z.moved b hS).turned Wk.frame gZ a;rcases hl with⟨hf,hl⟩|⟨lv,rfl,qh,Y⟩
  ·have next:∃m',m'<m/\xQ L m' s:=⟨m-1,(XH ‹_› ‹_›),i+1,x₁,⟨g,l,s⟩,rfl,(JE ‹_› ‹_›),hl,I7⟩
   rcases hf with rfl|rfl<;>subst fr<;>exact next
  ·(refine aq fr λu CO ln=>?_;subst CO);exact hR (.ret u) ⟨g,l,s⟩ (Y▸I7.qg) (qh▸(af u rfl ln))
def Qt (F:bM W n f)(aK:eG f)(ai:mZ W n g){tg it:Expr}{b:List Stmt}{pos:Pos}(h:HM f g tg it b x Z=some r):∃fl x',Z fl x'=some r/\iI W n (.For tg it b [] pos) x fl x':=by
 have CK:=Fx aK h;refine bc λuc=>aG (dD F h) λv x₁ h E=>aH h λxs hi h=>aG (OK ai h) λfl x' h R=>uc (ax fl x' h (λc k p=>wpAny_For ((E c k p).use λu k₁ w=>wB w.1.inv.ag w.2 hi λJ P Si s it=>aq (it.walks c.A c.rm.handled) λfp Wk gZ=>?_) (Ey CK)));have a:=w.1.lf (.dZ w.1.inv.ag it.ext);refine Ll (xQ ⟨c,tg,b,x,k,k₁.g,J,P,Si,xs,fl,x'⟩) (OL it Wk gZ λf k' a q=>(ax k'.g k'.loc a q)) xs.length
  ⟨0,x₁,⟨k₁.g,k₁.loc,s⟩,rfl,Nat.zero_add _,R,a.toS,it.st,(bx (w.1.inv.my it.new.1 (w.1.inv.ag.none it.new.1) rfl) (nT w.1.go.size it.new.1) it.new.2),λq=>w.1.inv.jU it.new.1 ((we (k':=⟨k₁.g,k₁.loc,s⟩) rfl)▸q),.refl _⟩
end
inductive oG (W:Wd)(n:Nat)(t:Expr)(b:List Stmt):Nat->X->X->Prop
 |done {m:Nat} {x x':X}:lI W n (λenv=>isTrue t env (eval t env)) x false x'->oG W n t b (m+1) x x'
 |turn {m:Nat} {x x₁ bF x':X}:lI W n (λenv=>isTrue t env (eval t env)) x true x₁->lV W n b x₁ .next bF->oG W n t b m bF x'->oG W n t b (m+1) x x'
section
variable{W:Wd} {n:Nat} {c:Cx W n} {x x' aI x₁:X} {k k' aC k₁:az} {lv:LV} {fl iJ:Fl} {r:LV×St} {Z:Fl->X->Kt} {f:bp} {g:gj}
def R2 (F:bM W n f)(ai:mZ W n g){t:Expr}{b:List Stmt}:∀{m:Nat}{x:X},sQ (ic f 8 t) (fg g b) m x Z=some r->∃x',Z .next x'=some r/\oG W n t b m x x':=by
 intro z_
 induction z_ with
 |zero=>intro x h;exact bD h
 |succ m ak=>
  intro x h;refine aG (ye F h) λz x₁ h eW=>?_
  induction z with
  |false=>exact af x₁ h (.done eW)
  |true=>
   refine aG (tB ai h) λfl bF h eX=>?_
   induction fl with
   |next=>refine aq (ak h) λx' h R=>?_;exact af x' h (.turn eW eX R)
   |_=>exact bD h
def oG.cases {t:Expr}{b:List Stmt}{m:Nat}(h:oG W n t b m x x'):∃m' z x₁,m=m'+1/\lI W n (λenv=>isTrue t env (eval t env)) x z x₁/\((z=false/\x₁=x')\/(z=true/\∃bF,lV W n b x₁ .next bF/\oG W n t b m' bF x')):=by
 induction h with
 |done a=>exact gf _ _ _ rfl a (.inl ⟨rfl,rfl⟩)
 |turn a d e=>exact gf _ _ _ rfl a (.inr ⟨rfl,_,d,e⟩)
def Na (F:bM W n f)(ai:mZ W n g){t:Expr}{b:List Stmt}{pos:Pos}{m:Nat}(h:sQ (ic f 8 t) (fg g b) m x Z=some r):∃fl x',Z fl x'=some r/\iI W n (.While t b [] pos) x fl x':=by
 refine aq (R2 F ai h) λx' h R=>ax _ _ h (λc k p=>wpAny_While (codeAny_whileLoop (λm s=>∃y k',k'.s=s/\oG W n t b m y x'/\fL c x k y k') ?_ m (aD x k rfl R (.refl p))));rintro m _ ⟨y,k',rfl,R,a⟩;(refine fA R.cases λm' z x₁ BR E hz=>?_;subst BR);refine wpAny_mono ((E c k' a.inv).use λu k₁ q=>?_) (λ_ _ q=>q) λ_ _ q=>q.elim;obtain ⟨rfl,q⟩:=q;rcases hz with⟨rfl,rfl⟩|⟨rfl,bF,eX,R⟩
 ·exact wpAny_execs_nil (ax k₁.g k₁.loc (a.trans q.toS) rfl)
 ·refine wpAny_mono (eX.use (a.trans q.toS)) (λfw s UJ=>aG UJ λg l a fr=>?_) λ_ _ q=>q.elim;subst fr;exact ⟨m',Nat.lt_succ_self _,bF,⟨g,l,s⟩,rfl,R,a⟩
end
section
variable{W:Wd} {n:Nat} {x:X} {r:LV×St} {Z:Fl->X->Kt} {f:bp} {g:gj}
def L9 (F:bM W n f)(aK:eG f)(FA:yf W n f)(au:gh W){t e:Expr}{pos:Pos}(h:zN f t e x Z=some r):∃fl x',Z fl x'=some r/\iI W n (.Assign [t] e pos) x fl x':=by
 cases t with
 |Name m q=>exact Lg F aK FA h
 |Tuple S j q=>
  have h:(cond (t9 e) none (zM f (.Tuple S j q) e x Z))=some r:=h;generalize ht:t9 e=z_;induction z_ with
  |true=>replace h:=ht▸h;exact aF h
  |false=>replace h:=ht▸h;exact KZ F ht h
 |Attribute a m q=>exact Li F au h
 |Subscript a i q=>exact L6 F h
 |_=>exact bD h
def L_ (F:bM W n f)(aK:eG f)(FA:yf W n f)(au:gh W)(ai:mZ W n g):mZ W n (AM f g):=by
 intro st x Z r h
 cases st with
 |Assign ts e pos=>refine aH h λt H h=>?_;obtain rfl:=ja H;exact L9 F aK FA au h
 |AugAssign t op e pos=>refine aH h λm H h=>?_;(refine aM (qw H) λq fj=>?_;subst fj);exact Qs F h
 |For tg it b o pos=>obtain ⟨H,h⟩:=bK h;obtain rfl:=List.isEmpty_iff.mp H;exact Qt F aK ai h
 |While t b o pos=>obtain ⟨H,h⟩:=bK h;obtain rfl:=List.isEmpty_iff.mp H;exact Na F ai h
 |If t b o pos=>exact R1 F ai h
 |Return v pos=>exact Qp F h
 |Continue pos=>exact ax _ _ h (λc k p=>wpAny_Continue (ax k.g k.loc (.refl p) rfl))
 |Pass pos=>exact ax _ _ h (λc k p=>wpAny_Pass (ax k.g k.loc (.refl p) rfl))
 |Expr e pos=>exact OJ F aK h
 |_=>exact bD h
def R3 (au:gh W){call:hU}{new:km}(hC:mq W n call)(hN:ph W n new):∀d,mZ W n (ex call new d):=by
 intro bz
 induction bz with
 |zero=>exact λh=>bD h
 |succ aJ ak=>exact L_ (AQ au hC hN 40) (Ap 40) (Qr (AQ au hC hN 39) (Ap 39) (AQ au hC hN 40)) au (ak)
end
structure AR (p:Arguments)(U:List Str):Prop where
 po:p.posonlyargs=[]
 args:p.args.map (·.arg)=U
 kw:p.kwonlyargs=[]
 va:p.vararg=none
 ka:p.kwarg=none
def vJ (h:Heap)(d:Value)(T:List Value):Prop:=(d=.none/\T=[])\/∃au o m,d=.ref au/\h.get? au=some o/\o.data=.seq T.toArray m
section
variable{bj:Model} {A:Around} {E:Value->Shared->Prop} {s:Shared}
def Ma {α β:Type}{f:α->β->Sem (ForInStep β)}{g:β->α->β}(hf:∀x b,f x b=pure (.yield (g b x))){Q:β->Shared->Prop}:∀(l:List α) b,Q (l.foldl g b) s->wpAny bj A (forIn l b f) Q E s:=by
 intro bz
 induction bz with
 |nil=>intro aJ aU;rw [List.forIn_nil];exact wpAny_pure aU
 |cons aW bf ak=>intro aJ aU;rw [List.forIn_cons,hf];exact wpAny_bind (wpAny_pure (ak _ aU))
def vJ.run {d:Value}{T:List Value}(x:vJ s.heap d T){Q:Option (Array Value)->Shared->Prop}(h:∀a,(a.getD #[]).toList=T->Q a s):wpAny bj A (seqItems? d) Q E s:=by
 rcases x with⟨rfl,rfl⟩|⟨au,o,m,rfl,H,M⟩
 ·exact wpAny_pure (h none rfl)
 ·exact wpAny_seqItems H M (h _ rfl)
end
noncomputable def kR (acc:List (Str×Value))(x:Str×Value):List (Str×Value):=if(acc.lookup x.1).isNone=true then acc++[(x.1,x.2)] else acc
def wC {α:Type}{x:Str}{p:Str×α}{l:List (Str×α)}(h:x≠p.1):(p::l).lookup x=l.lookup x:=by rw [List.lookup_cons,bN h]
def Nb {α:Type}{p:Str×α}{l:List (Str×α)}:(p::l).lookup p.1=some p.2:=by rw [List.lookup_cons,beq_self_eq_true]
def zc {α:Type}{b:List (Str×α)}{x:Str}:∀{a:List (Str×α)},a.lookup x=none->(a++b).lookup x=b.lookup x:=by
 intro z_
 induction z_ with
 |nil=>intro _;exact rfl
 |cons q a ak=>
  intro h;by_cases e:x=q.1
  ·subst e;replace h:=Nb▸h;exact lx h
  ·rw [wC e] at h;rw [List.cons_append,wC e];exact ak h
def Nc:∀{l acc:List (Str×Value)},(∀x∈l,(acc.lookup x.1).isSome=true)->l.foldl kR acc=acc:=by
 intro z_
 induction z_ with
 |nil=>intro acc _;exact rfl
 |cons x l ak=>intro acc h;have H:=h x mS;have e:kR acc x=acc:=if_neg (by rw [Option.isNone_iff_eq_none];intro q;replace H:=q▸H;exact aS H);show l.foldl kR (kR acc x)=acc;exact e.symm▸(ak λy hy=>h y (aT _ hy))
def OM:∀{l acc:List (Str×Value)},(∀x∈l,acc.lookup x.1=none)->(l.map (·.1)).Nodup->l.foldl kR acc=acc++l:=by
 intro z_
 induction z_ with
 |nil=>intro acc _ _;exact (List.append_nil _).symm
 |cons x l ak=>intro acc h hn;refine ay (nE hn) λa b=>?_;have e:kR acc x=acc++[x]:=if_pos (by rw [h x mS];rfl);show l.foldl kR (kR acc x)=acc++x::l;rw [e,ak (λy hy=>?_) b,List.append_assoc,List.singleton_append];rw [zc (h y (aT _ hy)),wC (λq=>a (kE (af y hy q)):y.1≠x.1)];rfl
def Ku {U:List Str}:∀{us:List Value}{x:Str},x∉U.take us.length->(U.zip us).lookup x=none:=by
 induction U with
 |nil=>intro us x _;cases us<;>rfl
 |cons p U ih=>
  intro us x h
  induction us with
  |nil=>rfl
  |cons u us=>rw [List.zip_cons_cons,List.lookup_cons];rw [List.length_cons,List.take_succ_cons,List.mem_cons,not_or] at h;exact (bN h.1).symm▸(ih h.2)
def DV {U:List Str}:∀{us:List Value}{x:Str},x∈U.take us.length->((U.zip us).lookup x).isSome=true:=by
 induction U with
 |nil=>intro us x h;rw [List.take_nil] at h;nomatch h
 |cons p U ih=>
  intro us x h
  induction us with
  |nil=>nomatch h
  |cons u us=>
   rw [List.zip_cons_cons,List.lookup_cons];rw [List.length_cons,List.take_succ_cons,List.mem_cons] at h;by_cases e:x=p
   ·rw [bI e];rfl
   ·rw [bN e];exact ih (h.resolve_left e)
def Nd {U:List Str}:∀{us:List Value}{ws:List Value},us.length<=U.length->U.zip (us++ws)=U.zip us++(U.drop us.length).zip ws:=by
 induction U with
 |nil=>intro us ws h;cases us<;>first|rfl|nomatch h
 |cons p U ih=>
  intro us ws h
  induction us with
  |nil=>rfl
  |cons u us=>exact congrArg ((p,u)::·) (ih (Nat.le_of_succ_le_succ h))
def KH:∀{U:List Str}{T:List Value},U.Nodup->U.length=T.length->∀acc:List (Str×Value),(∀x∈U,acc.lookup x=none)->U.filterMap (λx=>((acc++U.zip T).lookup x).map (x,·))=U.zip T:=by
 intro bz
 induction bz with
 |nil=>intro aJ aU aW bf bB;exact rfl
 |cons bH bS ak=>
  intro aJ aU aW bf bB
  cases aJ with
  |nil=>exact Ci aW
  |cons cb bU=>
   obtain ⟨a,b⟩:=nE aU;have e:(bf++(bH::bS).zip (cb::bU)).lookup bH=some cb:=by rw [zc (bB bH mS),List.zip_cons_cons,List.lookup_cons,beq_self_eq_true]
   rw [List.filterMap_cons,e];show(bH,cb)::_=(bH,cb)::bS.zip bU;congr 1;have:=ak b (Nat.succ.inj aW) (bf++[(bH,cb)]) λx Y=>by rw [zc (bB x (aT _ Y)),wC (λq=>a (by refine q▸?_;exact Y):x≠bH)];rfl
   rw [List.append_assoc] at this;exact this
def Ya {u p d:Nat}(M:p-u<=d):p-u<=d-(d-(p-u)):=Nat.le_of_eq (Nat.sub_sub_self M).symm
def Yb {u p d:Nat}(H:u<=p)(M:p-u<=d):p=u+(d-(d-(p-u))):=by rw [Nat.sub_sub_self M,Nat.add_sub_cancel' H]
def Yc {u p d:Nat}(M:p-u<=d):p-d<=u:=Nat.sub_le_of_le_add (Nat.add_comm d u▸Nat.le_add_of_sub_le M)
def Yd {u p d:Nat}(H:u<=p)(M:p-u<=d)(h3:d<=p):p-d+(d-(p-u))=u:=by rw [Nat.sub_add_sub_cancel h3 M,Nat.sub_sub_self H]
def Mb {U:List Str}{us ds:List Value}(hn:U.Nodup)(H:us.length<=U.length)(M:U.length-us.length<=ds.length)(h3:ds.length<=U.length):
  ((U.drop (U.length-ds.length)).zip ds).foldl kR (U.zip us)=U.zip (us++ds.drop (ds.length-(U.length-us.length))):=by
 have a1:U.length-ds.length+(ds.length-(U.length-us.length))=us.length:=Yd H M h3;have a2:U.length-us.length<=ds.length-(ds.length-(U.length-us.length)):=Ya M;generalize ds.length-(U.length-us.length)=B at a1 a2⊢;generalize U.length-ds.length=A at a1⊢;have e:(U.drop A).zip ds=((U.drop A).take B).zip (ds.take B)++(U.drop us.length).zip (ds.drop B):=by refine a1▸List.drop_drop▸?_;show List.zipWith Prod.mk _ _=List.zipWith Prod.mk _ _++List.zipWith Prod.mk _ _;rw [<-List.take_zipWith,<-List.drop_zipWith,List.take_append_drop]
 have hs:=List.nodup_append.mp ((List.take_append_drop us.length U).symm▸hn);rw [Nd H,e,List.foldl_append,Nc λx Y=>DV ?_,OM (λx Y=>Ku λq=>hs.2.2 _ q _ (List.of_mem_zip (b:=x.2) Y).1 rfl)]
 ·rw [List.map_fst_zip (List.length_drop.symm▸List.length_drop.symm▸a2)];exact hs.2.1
 ·have Y:=(List.of_mem_zip (b:=x.2) Y).1;rw [List.take_drop,a1] at Y;exact List.mem_of_mem_drop Y
def Nf {bj:Model}{A:Around}{E:Value->Shared->Prop}{s:Shared}{α β γ δ ε R:Type}{init:β}{F:α->β->Sem (ForInStep β)}{dv:Value}{ds:List Value}(hd:vJ s.heap dv ds)
  {c1 c2:Option (Array Value)->β->Bool} {T1 T2:Option (Array Value)->β->Sem R} {L:Option (Array Value)->β->List γ} {I:Option (Array Value)->β->δ} {ai:γ->δ->Sem (ForInStep δ)}
  {J:δ->ε} {F3:Str->ε->Sem (ForInStep ε)} {c3:ε->Bool} {T3 fin:Option (Array Value)->β->δ->ε->Sem R} {Q:R->Shared->Prop}
  (h:∀a,(a.getD #[]).toList=ds->c1 a init=false/\c2 a init=false/\wpAny bj A (forIn (L a init) (I a init) ai) (λs2 s'=>c3 (J s2)=false/\wpAny bj A (fin a init s2 (J s2)) Q E s') E s):
  wpAny bj A (forIn [] init F>>=λs0=>seqItems? dv>>=λd=>if c1 d s0=true then T1 d s0 else if c2 d s0=true then T2 d s0 else forIn (L d s0) (I d s0) ai>>=λs2=>forIn [] (J s2) F3>>=λs3=>if c3 s3=true then T3 d s0 s2 s3 else fin d s0 s2 s3) Q E s:=by
 refine wpAny_bind (wpAny_pure (wpAny_bind (hd.run λa ha=>ef (h a ha) λH M h3=>?_)));rw [if_neg (by rw [H];exact gi),if_neg (by rw [M];exact gi)];refine wpAny_bind (wpAny_mono h3 (λs2 s' q=>wpAny_bind (wpAny_pure ?_)) λ_ _ q=>q);rw [if_neg (by rw [q.1];exact gi)];exact q.2
def Mc {fd:FuncData}{U:List Str}(hp:AR fd.params U)(hn:U.Nodup){us ds:List Value}{s:Shared}(H:us.length<=U.length)(M:U.length-us.length<=ds.length)(h3:ds.length<=U.length)(hd:vJ s.heap fd.defaults ds):
  BindsTo s fd ⟨us,[]⟩ (U.zip (us++ds.drop (ds.length-(U.length-us.length)))):=by
 intro bj A E Q hq;obtain ⟨nm,qn,⟨po,ar,va,kw,kd,ka,df⟩,body,sc,gl,cl,lW,Zp,doc,pm,an,co,ct,bi⟩:=fd;obtain ⟨rfl,e,rfl,rfl,rfl⟩:=hp;delta PySem.bindArgs;dsimp only;refine (show([]).map (λx:Arg=>x.arg)++ar.map (λx=>x.arg)=U from e).symm▸(Nf hd λa ha=>?_);rw [(by refine ha.symm▸(Nat.sub_eq_zero_of_le h3).symm▸?_;rfl:List.drop ((a.getD #[]).toList.length-U.length) (a.getD #[]).toList=ds),List.filter_eq_nil_iff.mpr]
 ·refine bx (by refine (dF (gW H)).symm▸?_;rfl) rfl (Ma (g:=kR) (λx b=>?_) _ _ ⟨rfl,wpAny_pure ?_⟩)
  ·show(if _ then _ else _)=pure (ForInStep.yield (if _ then _ else _));by_cases q:(b.lookup x.1).isNone=true
   ·rw [if_pos q,if_pos q]
   ·rw [if_neg q,if_neg q]
  ·refine (Mb hn H M h3).symm▸?_;rw [List.map_nil,List.append_nil];show Q (List.filterMap (λx=>(([]++U.zip (us++ds.drop (ds.length-(U.length-us.length)))).lookup x).map (x,·)) U) s;exact (KH hn (T:=us++ds.drop (ds.length-(U.length-us.length))) (by rw [List.length_append,List.length_drop];exact Yb H M) [] λ_ _=>rfl).symm▸hq
 ·intro x Y;have:=DV (List.mem_of_mem_take (show x∈(U.take us.length).take (U.length-ds.length) by rw [List.take_take,Nat.min_eq_left (Yc M)];exact Y));rw [Option.isNone_iff_eq_none];intro q;rw [show List.lookup x (U.zip us)=none from q] at this;exact aS this
structure yj (W:Wd)(f:fK)(fd:FuncData):Prop where
 ok:f.ok=true
 body:fd.body=.stmts f.body
 scope:fd.scope=f.scope
 glob:fd.globals=mainGlobals
 blt:fd.builtins=builtinsNs
 JY:fd.closure=[]
 WT:AR fd.params f.params
 code:∀h,gx W h->h.CodeRec fd.code fd.qualname
 dflt:∃T ds,a_ o9 f.xK=some ds/\aO W.w ⟨W.eF,[]⟩ ds T/\T.length<=f.params.length/\∀h,gx W h->vJ h fd.defaults T
structure xR (W:Wd):Prop where
 lim:∀h,gx W h->h.NoLimit
 fn:∀i f,jn i=some f->∃o fd,W.eF (W.eI i)=some o/\o.data=.func fd/\yj W f fd
structure H0 (f:fK):Prop where
 kind:f.scope.kind=.function
 co:f.scope.isCoroutine=false
 gen:f.scope.isGenerator=false
 iY:f.scope.names.lookup iY=none
 kG:f.scope.names.lookup kG=none
 uniq:∀p∈f.scope.names,f.scope.names.lookup p.1=some p.2
 nodup:f.params.Nodup
 names:(f.scope.names.map (·.1)).Nodup
 par:∀p∈f.params,f.scope.names.lookup p=some .local\/f.scope.names.lookup p=some .cell
def wm:∀{l:List Str},qW l=true->l.Nodup:=by
 intro z_
 induction z_ with
 |nil=>intro _;exact .nil
 |cons x r ak=>intro h;obtain ⟨H,M⟩:=iD h;refine List.nodup_cons.mpr ⟨λq=>?_,ak M⟩;rw [cI q] at H;exact kH H
def Qu {f:fK}(h:f.ok=true):H0 f:=by delta fK.ok wW at h;simp only [Bool.and_eq_true,Bool.or_eq_true,List.all_eq_true,beq_iff_eq,Option.isNone_iff_eq_none,Bool.not_eq_true'] at h;exact ay h λbu b3=>ay bu λcx b2=>ay cx λcG b1=>ay cG λfm a6=>ay fm λfj a5=>ay fj λnh a4=>ay nh λiF a3=>ay iF λa1 a2=>⟨a1,a2,a3,a4,a5,λp hp=>a6 p hp,wm b1,wm b2,b3⟩
section
variable{W:Wd} {g:Gh}
noncomputable def xS (W:Wd)(g:Gh)(kindOf:Str->Option NameKind)(T:bL)(m cm:Str->Option Value):Prop:=∀y lv,T.lookup y=some lv->(kindOf y=some .local\/kindOf y=some .cell)/\(lv=.unset\/∃v u,lv=.val v/\VR W.w g v u/\(kindOf y=some .local->m y=some u)/\(kindOf y≠some .local->cm y=some u))
def Ng {kindOf:Str->Option NameKind}{T:bL}{m cm:Str->Option Value}{p:Str}{v:V}{u:Value}(h:xS W g kindOf T m cm)(hp:kindOf p=some .local\/kindOf p=some .cell)(hv:VR W.w g v u):
  xS W g kindOf (uI T p (.val v)) (if kindOf p=some .local thenλy=>if y=p then some u else m y else m) (if kindOf p=some .local then cm elseλy=>if y=p then some u else cm y):=λy lv hy=>by
 rw [zh] at hy;by_cases e:y=p
 ·subst e;replace hy:=(if_pos rfl)▸hy;obtain rfl:=oj hy;exact ⟨hp,.inr (d6 v u rfl hv (λh=>by rw [if_pos h];exact if_pos rfl) (λh=>by rw [if_neg h];exact if_pos rfl))⟩
 ·rw [if_neg e] at hy;(have lG:=(h y lv hy);have a:=lG.1;have b:=lG.2);refine ⟨a,b.imp id λdn=>hZ dn λv u q1 q2 q3 q4=>(d6 v u q1 q2 (λz=>?_) (λz=>?_))⟩
  ·split
   ·exact (if_neg e).trans (q3 z)
   ·exact q3 z
  ·split
   ·exact q4 z
   ·exact (if_neg e).trans (q4 z)
def Me {kindOf:Str->Option NameKind}:∀{U:List Str}{vals:List V}{us:List Value}{T:bL}{m cm:Str->Option Value},xS W g kindOf T m cm->(∀p∈U,kindOf p=some .local\/kindOf p=some .cell)->aO W.w g vals us->
  xS W g kindOf (putAll T (U.zip (vals.map .val))) (bindL kindOf (U.zip us) m) (bindC kindOf (U.zip us) cm):=by
 intro bz
 induction bz with
 |nil=>intro aJ aU aW bf bB bH bS cb;exact bH
 |cons bU kA ak=>
  intro aJ aU aW bf bB bH bS cb
  cases aJ with
  |nil=>cases cb.nil_of;exact bH
  |cons lJ kC=>obtain ⟨u,aU,rfl,hu,cb⟩:=cb.cons_of;have:=ak (Ng bH (bS bU mS) hu) (λq hq=>bS q (aT _ hq)) cb;exact this
def K2 {sc:List (Str×NameKind)}{y:Str}{lv:LV}(h:(qz sc).lookup y=some lv):lv=.unset/\((y,NameKind.local)∈sc\/(y,NameKind.cell)∈sc):=by refine bT (mem_of_lookup h) λp hp e=>ay (List.mem_filter.mp hp) λH M=>?_;(injection e with q_ dq;subst q_;subst dq);obtain ⟨a,b⟩:=p;rw [Bool.or_eq_true,beq_iff_eq,beq_iff_eq] at M;exact ⟨rfl,M.imp (λe=>by cases (show b=NameKind.local from e);exact H) λe=>by cases (show b=NameKind.cell from e);exact H⟩
def D7 {α:Type}:∀{l:List (Str×α)},(l.map (·.1)).Nodup->∀p∈l,l.lookup p.1=some p.2
 |q::l,h,p,hp=>by
  obtain ⟨a,b⟩:=nE h;rw [List.lookup_cons];rcases mE hp with rfl|hp
  ·rw [beq_self_eq_true]
  ·exact (bN λe=>a (kE (af p hp e))).symm▸(D7 b p hp)
def Kv:∀names n acc,(names.map (·.1)).Nodup->(acc.map (·.1)).Nodup->(∀p∈names,∀q∈acc,p.1≠q.1)->((cellsFrom n names acc).map (·.1)).Nodup:=by
 intro bz
 induction bz with
 |nil=>intro aJ aU aW bf bB;exact bf
 |cons bH bS ak=>
  intro aJ aU aW bf bB;obtain ⟨cb,bU⟩:=bH;refine ay (nE aW) λa b=>?_;unfold cellsFrom;split
  ·refine ak (aJ+1) _ b (List.nodup_cons.mpr ⟨λq=>?_,bf⟩) λp hp q hq=>?_
   ·exact bT q λz hz e=>bB _ mS z hz e.symm
   ·rcases mE hq with rfl|hq
    ·exact λe=>a (kE (af p hp e))
    ·exact bB p (aT _ hp) q hq
  ·exact ak aJ aU b bf λp hp q hq=>bB p (aT _ hp) q hq
end
section
variable{W:Wd} {n:Nat} {k:az} {σ:St} {A:Around}
def Qv {f:fK}(ok:H0 f){fd:FuncData}(F:yj W f fd){a:Addr}(rm:Rm (n+1) A)(hk:0<k.s.toks)(top:∀b o,W.eF b=some o->k.g.I b=some o)(rl:Rl W σ k){vals:List V}{us:List Value}(hv:aO W.w k.g vals us){s₁:Shared}
  (x:InCallC k.s (callEnvC fd k.top a).locals (bindL (callEnvC fd k.top a).kindOf (f.params.zip us) λ_=>none) (callEnvC fd k.top a).cells (bindC (callEnvC fd k.top a).kindOf (f.params.zip us) λ_=>none) s₁) (hle:k.s.toks<=s₁.toks):
  ∃c:Cx W n,c.A=A.deeper (callEnvC fd k.top a)/\c.env=callEnvC fd k.top a/\c.B=k.top/\Inv c ⟨f.scope.names,putAll (qz f.scope.names) (f.params.zip (vals.map .val)),σ⟩ ⟨k.g,k.loc,s₁⟩/\Go bP bP k ⟨k.g,k.loc,s₁⟩:=by
 have kf:∀y,(callEnvC fd k.top a).kindOf y=f.scope.names.lookup y:=λy=>by rw [<-F.scope];rfl
 have hc:(callEnvC fd k.top a).cells=cellsFrom (k.top+1) f.scope.names []:=by rw [<-F.scope];rfl
 have d8:((callEnvC fd k.top a).cells.map (·.1)).Nodup:=by rw [hc];exact Kv _ _ _ ok.names .nil λ_ _ q hq=>cj hq
 have fs:Fs (callEnvC fd k.top a) f.scope.names:=⟨by show fd.scope.kind=_;refine F.scope.symm▸?_;exact ok.kind,F.glob,F.blt,ok.iY,ok.kG,λy h=>by rw [kf];delta iN at h;simp only [Bool.or_eq_true,beq_iff_eq,or_assoc] at h;exact h,λy h=>(kf y).trans h,λy h=>(kf y).trans h,λy h=>(kf y).trans h,λ_=>x.apart⟩
 have Ye:Rm n (A.deeper (callEnvC fd k.top a)):=⟨rm.handled,vx rm.depth (nl rfl),vx rm.units (nl rfl)⟩;refine c9 x.toInCall.same λhs tk e=>?_;have sz:k.top<=s₁.heap.objs.size:=Nat.le_of_lt x.toInCall.ns.lt;have go:Go bP bP k ⟨k.g,k.loc,s₁⟩:=⟨(ax hs tk (by rw [e] at hle;exact hle) e),sz,.refl _,λ_ _ q=>.inl q,λ_ q=>.inl q,λb o q _=>.inl (x.toInCall.keep b o q)⟩;have my:∀b,k.top<=b->My k.g b:=λb hb=>⟨rl.ag.none hb,λz hz q=>absurd (rl.d8 z hz).2 (by refine q.symm▸?_;exact gW hb)⟩;have sl:=Me (g:=k.g) (kindOf:=(callEnvC fd k.top a).kindOf) (T:=qz f.scope.names) (m:=λ_=>none) (cm:=λ_=>none) (λy lv hy=>by(have nZ:=(K2 hy);have H:=nZ.1;have M:=nZ.2);rw [kf];exact ⟨M.imp (ok.uniq _) (ok.uniq _),.inl H⟩) (λp hp=>by rw [kf];exact ok.par p hp) hv
 have noOwn:∀y lv,(putAll (qz f.scope.names) (f.params.zip (vals.map .val))).lookup y=some lv->lv.own=true->False:=λy lv hy ho=>by rcases (sl y lv hy).2 with rfl|⟨v,u,rfl,_⟩<;>exact kH ho
 refine ⟨⟨A.deeper (callEnvC fd k.top a),k.top,callEnvC fd k.top a,f.scope.names,Ye,fs⟩,rfl,rfl,rfl,⟨go.tk hk,top,rl.ext (.refl _) (λb o q=>x.toInCall.keep b o (rl.ag b o q)) rfl (λz hz=>(rl.d8 z hz).1) sz λz _ o q=>x.toInCall.keep _ o q,
  ⟨rfl,(eg _ x.toInCall.ns),λy lv hy=>?_,⟨my _ (nR _),nR _⟩,λp hp=>?_,λy lv hy ho=>(noOwn y lv hy ho).elim,λy z ly lz hy _ ho=>(noOwn y ly hy ho).elim⟩⟩,go⟩
 ·refine ay (sl y lv hy) λH M=>?_;rcases H with H|H
  ·show∃ov,(match(callEnvC fd k.top a).kindOf y with|some .local=>_|some .cell=>_|some .free=>_|_=>True)/\_;rw [H];refine af _ (af _ x.toInCall.ns rfl) ?_;rcases M with rfl|⟨v,u,rfl,r,q1,q2⟩
   ·trivial
   ·exact af u (q1 H) r
  ·show∃ov,(match(callEnvC fd k.top a).kindOf y with|some .local=>_|some .cell=>_|some .free=>_|_=>True)/\_;rw [H];have hl:=cellsFrom_some f.scope.names (k.top+1) [] (.inl ((kf y).symm.trans H));rw [<-hc] at hl;refine aM (iE hl) λb hb=>af _ (af b hb (x.cell y b hb)) ?_;rcases M with rfl|⟨v,u,rfl,r,q1,q2⟩
   ·trivial
   ·exact af u (q2 (by refine H.symm▸?_;exact nofun)) r
 ·exact eQ (my _ (Nat.le_of_lt (x.above p.1 p.2 hp))) (Nat.le_of_lt (x.above p.1 p.2 hp)) ((x.cell p.1 p.2 (D7 d8 p hp)).lt) (Ne.symm (Nat.ne_of_lt (x.above p.1 p.2 hp)))
end
set_option backward.match.sparseCases true
noncomputable def H2 (W:Wd)(A:Around)(k:az)(i:Nat×Nat)(us:List Value)(lv:LV)(σ':St):Prop:=codeAny (Md W.w) A (.call (.ref (W.eI i)) ⟨us,[]⟩) (λr s'=>match r with|.ok (.ret v)=>∃g,uf W k lv σ' v ⟨g,k.loc,s'⟩|.ok _=>False|.error _=>False) k.s
def rb (W:Wd)(n:Nat)(call:hU):Prop:=∀{i:Nat×Nat}{args:List V}{σ:St}{r:LV×St}{A:Around}{k:az}{us:List Value},call i args σ=some r->Rm n A->0<k.s.toks->(∀b o,W.eF b=some o->k.g.I b=some o)->Rl W σ k->aO W.w k.g args us->H2 W A k i us r.1 r.2
section
variable{W:Wd} {n:Nat} {k k':az} {σ:St} {A:Around} {r:LV×St}
def Nh {fl:Fl}{x:X}(h:Cn fl x=some r):(fl=.next/\r=(.val .none,x.st))\/∃lv,fl=.ret lv/\r=(lv,x.st):=by
 induction fl with
 |next=>exact .inl ⟨rfl,(oj h).symm⟩
 |ret lv=>
  refine aH h λiG H M=>?_;obtain rfl:lv=iG:=by cases lv<;>cases H<;>rfl
  exact .inr ⟨lv,rfl,(oj M).symm⟩
 |_=>exact bD h
noncomputable def Qw:Flow->Value
 |.ret v=>v
 |_=>.none
def Ni {c:Cx W n}{x x':X}{k₁:az}(hB:c.B=k.top)(hl:k₁.loc=k.loc)(inv:Inv c x k₁)(go:Go bP bP k k₁){fl:Fl}{f:Flow}{s:Shared}(h:iH c x k₁ fl x' f s)(hr:Cn fl x'=some r):
  ∃g,uf W k r.1 r.2 (Qw f) ⟨g,k.loc,s⟩:=by
 refine aG h λg l a fr=>?_;have low:∀b,bR c.env x k₁ b->¬b<k.top:=λb q=>gW (hB▸(inv.fr.lt q).2.1);have go':=go.trans a.go (λb q hb=>low b q hb) λb q hb=>low b q hb;have rl:Rl W x'.st ⟨g,k.loc,s⟩:=⟨a.inv.rl.ag,a.inv.rl.obj,a.inv.rl.sep,a.inv.rl.new,a.inv.rl.d8,a.inv.rl.top⟩;have I8:Go bP bP k ⟨g,k.loc,s⟩:=⟨go'.rest,go'.size,go'.le,go'.quiet,go'.fresh,go'.kept⟩;rcases Nh hr with⟨rfl,rfl⟩|⟨lv,rfl,rfl⟩
 ·subst fr;exact ⟨g,rl,I8,rfl,.val .none⟩
 ·obtain ⟨u,rfl,b,q1,q2⟩:=fr;exact ⟨g,rl,I8,rfl,b,q1,λo=>⟨(q2 o).1,hB▸(q2 o).2⟩⟩
def KI {U:List Str}{ds args:List V}{bs:List (Str×LV)}(h:Mine.bindArgs U ds args=some bs):args.length<=U.length/\U.length-args.length<=ds.length/\bs=U.zip ((args++ds.drop (ds.length-(U.length-args.length))).map .val):=by exact ay (bK h) λH M=>gK H λh3 h4=>bx (cS h3) (cS h4) ((oj M).symm)
def Qx (au:gh W)(FO:xR W){call:hU}{new:km}(hC:mq W n call)(hN:ph W n new){i:Nat×Nat}{f:fK}(hf:jn i=some f){args:List V}{us:List Value}(h:Bv call new f args σ=some r)
  (rm:Rm (n+1) A) (tk:0<k.s.toks) (top:∀b o,W.eF b=some o->k.g.I b=some o) (rl:Rl W σ k) (hs:aO W.w k.g args us):H2 W A k i us r.1 r.2:=by
 refine bc λjr=>jS h λds bs hd hb h=>?_;(refine ef (KI hb) λb1 b2 jo=>?_;subst jo);refine aG (tB (R3 au hC hN 12) h) λfl x' hr E=>aw (FO.fn i f hf) λo fd hI UK F=>?_;have ok:=Qu F.ok;have yK:gx W k.h:=λb o q=>rl.ag _ _ (top _ _ q);refine hZ F.dflt λT gn Dk hv hlen Yf=>?_;obtain rfl:=oj (hd.symm.trans Dk);refine jr ?_;have hv:=hv.mono ⟨top,List.nil_prefix⟩;have hl:ds.length=T.length:=hv.length;have jy:args.length=us.length:=hs.length;have bt:=Mc F.WT ok.nodup (us:=us) (jy▸b1) (by refine jy▸hl▸?_;exact b2) hlen (Yf _ yK);rw [<-jy,<-hl] at bt;refine codeAny_call_function (yA (yA rm.depth)) (yK _ _ hI) UK (by refine F.scope.symm▸?_;exact ok.co) (F.scope.symm▸ok.gen) F.body (F.code _ yK) (bt _ _ _ _ ?_);refine F.JY.symm▸(wpAny_mono (wpAny_toks (wpAny_newFunctionEnv_cells (Q:=λenv s₁=>env=callEnvC fd k.top (W.eI i)/\InCallC k.s env.locals (bindL env.kindOf (f.params.zip (us++T.drop (ds.length-(f.params.length-args.length)))) λ_=>none) env.cells (bindC env.kindOf (f.params.zip (us++T.drop (ds.length-(f.params.length-args.length)))) λ_=>none) s₁) (E:=aA) (F.scope.symm▸ok.kind) (λx Y=>?_) λenv he s₁ x=>⟨he,x⟩)) (λenv s₁ x=>?_) λ_ _ x=>x.2.elim)
 ·exact F.scope.symm▸((ok.par _ ((List.of_mem_zip (b:=x.2) Y).1)).imp id λq=>⟨q,cellsFrom_some _ _ _ (.inl q)⟩)
 obtain ⟨hle,he,x⟩:=x;subst he;refine ⟨(FO.lim _ yK).keeps x.toInCall.keep,codeAny_func (IH (Qv (a:=W.eI i) ok F rm tk top rl (hs.append (hv.drop)) x hle) λc hA hE hB inv go=>?_)⟩;have w:=E c _ inv;rw [hA,hE] at w;refine wpAny_mono w (λfw s q=>?_) λ_ _ q=>q.elim
 cases fw<;>exact (Ni (k₁:=⟨k.g,k.loc,s₁⟩) hB rfl inv go q hr)
def rb.G9 {call:hU}(FO:xR W)(qi:∀{i args σ r},call i args σ=some r->∃f,jn i=some f)(h:rb W n call):mq W n call:=⟨λq=>by obtain ⟨f,hf⟩:=qi q;exact aw (FO.fn _ f hf) λo fd a b _=>(ax o fd a b),λq rm tk top rl hs=>wpAny_call (h q rm tk top rl hs)⟩
structure CP (W:Wd):Prop where
 make:∀{c:Str}{i:Nat×Nat},nM c Bn=some i->∀h,gx W h->Makes (Md W.w) h (W.eE c)/\Looks (Md W.w) h (typeLookup (.ref (W.eE c)) "__init__") (some (.ref (W.eI i)))/\∀self,Looks (Md W.w) h (bindSpecial (.ref (W.eI i)) self) (.ref (W.eI i),[self])
 keep:∀{c:Str}{i:Nat×Nat},nM c Bn=some i->∀h,gx W h->Looks (Md W.w) h (keeperOf (.ref (W.eE c))) .machine
def zf {c m:Str}{i:Nat×Nat}(h:nM c m=some i):(f5.lookup c).isSome=true:=by refine aH h λt H _=>?_;refine H.symm▸?_;rfl
def Rl.inst (rl:Rl W σ k){c:Str}(hc:(f5.lookup c).isSome=true):∃g,Rl W (σ.alloc (.inst c [])) ⟨g,k.loc,{k.s with heap:=(k.h.push emptyDict).push (instObj (W.eE c) k.top)}⟩/\Go bP bP k ⟨g,k.loc,{k.s with heap:=(k.h.push emptyDict).push (instObj (W.eE c) k.top)}⟩/\g.ρ[σ.next]?=some (k.top+1,k.top):=by have JZ:((k.h.push emptyDict).push (instObj (W.eE c) k.top)).get? (k.top+1)=some (instObj (W.eE c) k.top):=(Heap.size_push ..:(k.h.push emptyDict).objs.size=k.top+1)▸eR rfl;have l:Lf k ⟨k.g.add (k.top+1) (instObj (W.eE c) k.top),k.loc,{k.s with heap:=(k.h.push emptyDict).push (instObj (W.eE c) k.top)}⟩:=.new rl.ag (.trans (.push emptyDict) (.push _)) (lS _) JZ;refine bX _ (rl.alloc l (d:=k.top) (nR _) (by show k.top<Array.size _;refine (by rw [Heap.size_push,(Heap.size_push ..)]:((k.h.push emptyDict).push (instObj (W.eE c) k.top)).objs.size=k.top+2).symm▸?_;exact lS _) ((Gh.nP (Nat.ne_of_lt (Nat.lt_succ_self _))).trans (rl.ag.none (nR _)):(k.g.add (k.top+1) (instObj (W.eE c) k.top)).I k.top=none) ?_) (l.more (a:=k.top+1) (nR _)) (Gh.w7 rl.new);exact ⟨⟨_,Gh.nO⟩,λ_=>none,⟨hc,(mJ _ JZ rfl (λz=>nofun) rfl),Nat.ne_of_lt (Nat.lt_succ_self _),Heap.Ns1.of_empty ((Heap.Ns.new k.h (.type "dict")).keeps λb o e=>Heap.get?_push_of_some _ e),λy q=>aS q⟩,λy=>.inl ⟨rfl,rfl⟩⟩
def K3 {lv:LV}(h:Gd lv=true):lv=.val .none:=by
 induction lv with
 |val v=>cases v<;>first|rfl|exact kH h
 |_=>exact kH h
def R4 (NC:CP W){call:hU}(h:rb W n call):ph W (n+1) (f_ call):=by
 refine ⟨λq hp gY=>?_,λ{c args σ r A k us} q rm tk top rl hs=>?_⟩
 ·exact aH q λi hi _=>NC.keep hi hp gY
 ·refine Cr q λi r' hi hr hn q=>?_;(injection q with q_;subst q_);refine ef (NC.make hi k.h λb o z=>rl.ag _ _ (top _ _ z)) λY4 hI hb=>bW (rl.inst (zf hi)) λg Yg go J0=>?_;have ru:(A.under (.builtin "type.__call__" ⟨.ref (W.eE c)::us,[]⟩)).units=A.units+(1+3*(Code.builtin "type.__call__" ⟨.ref (W.eE c)::us,[]⟩).frames):=rfl;have rd:(A.under (.builtin "type.__call__" ⟨.ref (W.eE c)::us,[]⟩)).depth=A.depth+1:=rfl;have rf:(Code.builtin "type.__call__" ⟨.ref (W.eE c)::us,[]⟩).frames=0:=rfl;have w:=h (us:=.ref (k.top+1)::us) hr (⟨rm.handled,by refine rd.symm▸?_;exact vx rm.depth (nl rfl),by refine ru.symm▸rf.symm▸?_;exact vx rm.units (nl rfl)⟩:Rm n (A.under (.builtin "type.__call__" ⟨.ref (W.eE c)::us,[]⟩))) (go.tk tk) (λb o z=>go.le.I b o (top b o z)) Yg (.cons (.obj J0) (hs.mono go.le))
  refine wpAny_call (make_core (h:=k.s.heap) (g:=k.s.gens) (d:=k.s.drawn) (t:=k.s.toks) (os:=k.s.os) Y4 hI hb (.inl rfl) (codeAny_mono w λz s' q=>?_));rcases z with e|(_|_|_|v)<;>first|exact q.elim|skip
  obtain ⟨g',q⟩:=q;obtain ⟨lv,σ'⟩:=r';obtain rfl:=K3 hn;exact ⟨q.got.fu.none_of,g',q.rl,go.trans q.go (λ_ w _=>w) λ_ w _=>w,q.loc,.val (.obj (q.go.le.at J0))⟩
end
def Fy {n:Nat}{i:Nat×Nat}{args:List V}{σ:St}{r:LV×St}(h:ae n i args σ=some r):∃f,jn i=some f:=by
 induction n with
 |zero=>exact aF h
 |succ n=>refine aH h λf hf _=>?_;exact eg f hf
def zT {W:Wd}(au:gh W)(FO:xR W)(NC:CP W):∀{m n:Nat},2*m<=n->rb W n (ae m)
 |0,n,_=>λh=>bD h
 |m+1,0,hn=>(absurd ‹_› (Nat.not_lt_zero _))
 |m+1,1,hn=>absurd (Nat.le_of_succ_le_succ hn) (Nat.not_succ_le_zero _)
 |m+1,n+2,hn=>λh rm tk top rl hs=>by refine aH h λf hf h=>?_;have c1:rb W (n+1) (ae m):=zT au FO NC (lB (Nat.le_of_succ_le_succ (Nat.le_of_succ_le_succ hn)));exact Qx au FO (c1.G9 FO Fy) (R4 NC (zT au FO NC (Nat.le_of_succ_le_succ (Nat.le_of_succ_le_succ hn)))) hf h rm tk top rl hs
set_option backward.match.sparseCases false
section
variable{W:Wd} {A:Around} {k:az}
def wK {n:Nat}(h:aY n=true):((n:Int)<2^63):=xD (fit_le h)
def xu (ag:k.g.In k.h){i:Int}{t t':Nat}(ht:k.s.toks<=t'):∃g,n3 W k (.val (.int i)) (.int i t) ⟨g,k.loc,{k.s with toks:=t'}⟩:=(af k.g (.dZ ag (.tok _ ht)) (.val (.int _ _)))
def R5:HU W:=by
 intro a v A k u b h hI ag l;refine fS h λn H hf h3=>?_;(injection h3 with q_;subst q_);have lst:∀{xs:List V}{b:Addr},fh W.w k.g k.h b xs->xs.length=n->ee W A k (PySem.call (.builtin "len") [.ref b]) (.val (.int n)):=λm5 e=>aG m5 λT m q r=>Calls.call_function_entry kind_len plain_len entry_len (args_len1 _) (len_entry_list ⟨_,q,rfl,m,rfl⟩ (by refine (r.eD.symm.trans e).symm▸?_;exact wK hf) (by refine (r.eD.symm.trans e).symm▸?_;exact xu (ht:=(lB (lS _))) ag))
 induction a with
 |unset=>exact aF H
 |ml xs=>refine ay l λe q=>?_;obtain rfl:=oj e;exact lst q (oj H)
 |md S=>
  refine bc λpN=>ay (bK H) λh4 h5=>?_;obtain rfl:=oj h5;obtain ⟨e,o,ds,ep,q1,⟨q2,q3,q4,q5⟩,q6⟩:=l;obtain rfl:=oj e;refine bW (Bx q6 λe he x Y=>(sS (q4.alike h4 e he x Y)).trans rfl) λaR R p q=>pN ?_
  classical
  exact call_len_dict q5 ((uF o ds ep q1 q2 q3 (λe he=>q e (Array.mem_toList_iff.mpr he)) p (R.nodup q4)):k.h.DictOf (rR pw W.w) b aR) (by refine R.length.symm.symm▸?_;exact wK hf) (by refine R.length.symm.symm▸?_;exact xu (ht:=(lB (lS _))) ag)
 |val w=>
  cases w with
  |tup xs=>(injection H with q_;subst q_);(refine aw (l.fu.qZ ag) λa T uW ht r=>?_;subst uW);exact Calls.call_function_entry kind_len plain_len entry_len (args_len1 _) (len_entry_tuple ht (by refine r.eD.symm.symm▸?_;exact wK hf) (by refine r.eD.symm.symm▸?_;exact xu (ht:=(lB (lS _))) ag))
  |list xs=>(refine aq (l.fu.kU ag) λa uh q=>?_;subst uh);exact lst q (oj H)
  |str x=>(injection H with q_;subst q_);obtain ⟨t,rfl⟩:=l.fu.j7;exact len_str (Int.not_le.mpr (wK hf)) (xu (ht:=(lB (lS _))) ag)
  |_=>exact bD H
end
def KJ {prog:Program}{w:World}{A:Around}{E:Value->Shared->Prop}{s:Shared}{Q:List Value->Shared->Prop}(l:Addr){T:Array Value}{m:Nat}(ho:s.heap.get? l=some (lobj T m))(hsz:T.size<=sizeLine)
  (hQ:∀h',s.heap.objs.size<=h'.objs.size->(∀b o',s.heap.get? b=some o'->h'.get? b=some o')->Q T.toList {s with heap:=h'}):wpAny (model prog w) A (collect (.ref l)) Q E s:=
 wpAny_mono (nu (wpAny_collect_seq (Q:=λr s'=>r=T.toList/\∃h':Heap,(∀b o',s.heap.get? b=some o'->h'.get? b=some o')/\s'={s with heap:=h'}) (hsz:=hsz) l (.inl rfl) ho rfl rfl λh' hk=>⟨rfl,h',hk,rfl⟩) λr s' ht hz q=>by obtain ⟨rfl,h',hk,rfl⟩:=q;exact hQ h' hz hk) (λ_ _ q=>q) λ_ _ q=>q.elim
def Nj {l:Addr}{T:Array Value}{m:Nat}(hsz:T.size<=sizeLine):Meets (Builtin.«tuple.__new__» ⟨[.type "tuple",.ref l],[]⟩)
  (λ_ R s=>s.heap.get? l=some (lobj T m)/\∀h':Heap,s.heap.objs.size<=h'.objs.size->(∀b o',s.heap.get? b=some o'->h'.get? b=some o')->R (.ok (.ret (.ref h'.objs.size))) {s with heap:=h'.push {cls:=.type "tuple",data:=.seq T}}):=
 .of_wp λprog w A R s h=>by
  obtain ⟨hp,g,d,tk,os⟩:=s;(have ht:=h.1;have h:=h.2);have e:Builtin.«tuple.__new__» ⟨[.type "tuple",.ref l],[]⟩=(do
    if<-Builtin.Tuple.tupleIsExact (.ref l) then rule "tuple.new.same-object";return<-ret (.ref l)
    let xs<-collect (.ref l)
    ret (<-Builtin.Tuple.tupleExact xs.toArray)):=by
   delta Builtin.«tuple.__new__»;have q1:isType (.type "tuple")=pure true:=rfl;have q2:noKeywords "tuple" ⟨[.type "tuple",.ref l],[]⟩=pure ():=rfl;have q3:checkCount "tuple" 0 1 [Value.ref l].length=pure ():=rfl;simp only [q1,sub_tuple_self,init_tuple_lookup,madeHere_tuple,q2,q3,(by decide+kernel:((Manifest.find? "tuple").elim false λx=>x.noNew)=false),pure_bind,Bool.not_true,Bool.false_eq_true,if_false,beq_self_eq_true,if_true]
  exact e.symm▸(wpAny_bind (wpAny_bind (wpAny_typeOf (af _ ht rfl) (wpAny_pure (wpAny_bind (KJ l ht hsz λh' hz hk=>wpAny_bind (wpAny_newObj_type (wpAny_pure (af _ rfl (h h' hz hk))) hsz)))))))
section
variable{W:Wd} {A:Around} {k:az}
def Nk {as:List V}{lv:LV}{us:List Value}(h:blt .range as=some lv)(ag:k.g.In k.h)(hs:aO W.w k.g as us):ee W A k (PySem.call (.type "range") us) lv:=by
 have fin:∀{a b:Int}{t u v tk:Nat},k.s.toks<=tk->∃g,n3 W k (.val (.fH a b)) (.ref k.top) ⟨g,k.loc,{k.s with heap:=k.h.push {cls:=.type "range",data:=.fields #[.int a t,.int b u,.int 1 v]},toks:=tk}⟩:=λhtk=>⟨_,.new ag (.trans (.push _) (.tok _ htk)) (nR _) (eR rfl),.val (.fH Gh.nO)⟩
 cases as with
 |nil=>exact bD h
 |cons x as=>
  cases as with
  |nil=>
   refine fS h λn H M h3=>?_;obtain rfl:=oj h3;obtain rfl:=fW H;(refine aw hs.cons_of λu us Cu hu hn=>?_;subst Cu)
   cases hn.nil_of
   obtain ⟨t,rfl⟩:=hu.da;exact call_range_1 (fin (lB (lS _)))
  |cons y as=>
   induction as with
   |cons=>exact bD h
   |nil=>
    refine jS h λa b H M h=>ay (bK h) λh3 h4=>?_;obtain rfl:=oj h4;obtain rfl:=fW H;obtain rfl:=fW M;obtain ⟨u,us,rfl,hu,hs⟩:=hs.cons_of;(refine aw hs.cons_of λv us UL hv hn=>?_;subst UL)
    cases hn.nil_of
    obtain ⟨t,rfl⟩:=hu.da;obtain ⟨t',rfl⟩:=hv.da;exact call_range_2 (fin (lS _))
def oY {α:Type}{as:List V}{us:List Value}{f:V->Option α}{r:α}(h:(one as).bind f=some r)(hs:aO W.w k.g as us):∃a u,us=[u]/\VR W.w k.g a u/\f a=some r:=by
 refine aH h λa H h=>?_;obtain rfl:=ja H;(refine aw hs.cons_of λu us BE hu hn=>?_;subst BE)
 cases hn.nil_of
 exact aD a u rfl hu h
def Fz {α:Type}{as:List V}{us:List Value}{f:V×V->Option α}{r:α}(h:(iW as).bind f=some r)(hs:aO W.w k.g as us):∃a b u v,us=[u,v]/\VR W.w k.g a u/\VR W.w k.g b v/\f (a,b)=some r:=by
 refine bc λBS=>aH h λp H h=>?_;obtain rfl:=wJ H;obtain ⟨u,us,rfl,hu,hs⟩:=hs.cons_of;(refine aw hs.cons_of λv us UM hv hn=>?_;subst UM)
 cases hn.nil_of
 exact BS (kh _ _ u v rfl hu hv h)
def Nl {as:List V}{lv:LV}{us:List Value}(h:blt .tuple as=some lv)(ag:k.g.In k.h)(hs:aO W.w k.g as us):ee W A k (PySem.call (.type "tuple") us) lv:=by
 (refine aw (oY h hs) λa u Bz hu h=>?_;subst Bz)
 cases a with
 |tup xs=>obtain rfl:=oj h;(refine aw (hu.qZ ag) λa T UN ht r=>?_;subst UN);exact call_tuple_same ht (af k.g (.dZ ag .refl) (.val hu))
 |list xs=>refine ay (bK h) λH M=>?_;obtain rfl:=oj M;obtain ⟨a,rfl,T,m,q,r⟩:=hu.kU ag;refine callType_new F.called_tuple (by decide) (F.typeCall_tuple_1 _) (F.newCall_tuple_1 _) (λobj=>F.args_object_init_2 obj _) F.entry_tuple_new (Nj (by refine r.eD▸j8.symm▸?_;have:=fit_le H;exact nT ‹_› (nl rfl))) ⟨q,λh' hz hk=>⟨(af _ (eR rfl) rfl),?_⟩⟩;exact xM ag ⟨(ax _ _ (nR _) rfl),by show _<=(h'.push _).objs.size;rw [Heap.size_push];exact lB hz,λb o e=>Heap.get?_push_of_some _ (hk b o e)⟩ hz (by refine Array.toArray_toList.symm▸?_;exact eR rfl) r
 |_=>exact bD h
def Qy {as:List V}{lv:LV}{us:List Value}(hh:A.handled=none)(h:blt .max as=some lv)(ag:k.g.In k.h)(hs:aO W.w k.g as us):ee W A k (PySem.call (.builtin "max") us) lv:=by
 (refine oe (Fz h hs) λa b u v UO hu hv h=>?_;subst UO);(refine eP (tA h) λx y z BU BV h3 BW=>?_;subst BU;subst BV;subst BW);obtain rfl:=oj h3;obtain ⟨t,rfl⟩:=hu.da;obtain ⟨t',rfl⟩:=hv.da;refine nu (max_two_ints hh (Q:=λr s'=>(∃t,r=.int (cond (decide (x<y)) y x) t)/\∃h' tk,(∀c o,k.h.get? c=some o->h'.get? c=some o)/\s'={k.s with heap:=h',toks:=tk}) λh' tk hk=>⟨?_,h',tk,hk,rfl⟩) λr s' ht hz q=>?_
 ·by_cases q:x<y
  ·rw [if_pos q,dT q];exact ⟨_,rfl⟩
  ·rw [if_neg q,dF q];exact ⟨_,rfl⟩
 ·obtain ⟨⟨t,rfl⟩,h',tk,hk,rfl⟩:=q;exact af k.g (.dZ ag ⟨(ax _ _ ht rfl),hz,hk⟩) (.val (.int _ _))
def Qz {as:List V}{lv:LV}{us:List Value}(hh:A.handled=none)(h:blt .min as=some lv)(ag:k.g.In k.h)(hs:aO W.w k.g as us):ee W A k (PySem.call (.builtin "min") us) lv:=by
 (refine oe (Fz h hs) λa b u v UP hu hv h=>?_;subst UP);(refine eP (tA h) λx y z UQ BX h3 UR=>?_;subst UQ;subst BX;subst UR);obtain rfl:=oj h3;obtain ⟨t,rfl⟩:=hu.da;obtain ⟨t',rfl⟩:=hv.da;refine nu (min_two_ints hh (Q:=λr s'=>(∃t,r=.int (cond (decide (y<x)) y x) t)/\∃h' tk,(∀c o,k.h.get? c=some o->h'.get? c=some o)/\s'={k.s with heap:=h',toks:=tk}) λh' tk hk=>⟨?_,h',tk,hk,rfl⟩) λr s' ht hz q=>?_
 ·by_cases q:y<x
  ·rw [if_pos q,dT q];exact ⟨_,rfl⟩
  ·rw [if_neg q,dF q];exact ⟨_,rfl⟩
 ·obtain ⟨⟨t,rfl⟩,h',tk,hk,rfl⟩:=q;exact af k.g (.dZ ag ⟨(ax _ _ ht rfl),hz,hk⟩) (.val (.int _ _))
def QA {as:List V}{lv:LV}{us:List Value}(h:blt .str as=some lv)(ag:k.g.In k.h)(hs:aO W.w k.g as us):ee W A k (PySem.call (.type "str") us) lv:=by(refine aw (oY h hs) λa u US hu h=>?_;subst US);refine fS h λi H M h3=>?_;obtain rfl:=oj h3;obtain rfl:=fW H;obtain ⟨t,rfl⟩:=hu.da;rw [qA] at M;exact str_of_int_fit ((Decidable.em (i<0)).elim (λh=>by rw [if_pos h];exact Int.lt_of_le_of_lt (Int.sub_le_sub_left M.1 0) (by decide)) (λh=>by rw [if_neg h];exact Int.lt_of_le_of_lt M.2 (by decide))) (Int.le_refl _) λ_=>af k.g (.dZ ag (.tok (h:=(lS _)) _)) (.val (.str _ _))
def intText_of {x:Str}{i:Int}(h:AG x=some i):PySem.intText? x=some i:=by
 obtain ⟨⟨l⟩⟩:=x
 cases l with
 |nil=>exact bD h
 |cons c l=>
  induction l with
  |cons=>exact bD h
  |nil=>
   refine ay (bK h) λH M=>?_;obtain ⟨h3,h4⟩:=iD H;have h4:=Nat.le_of_ble_eq_true h4;obtain rfl:=oj M;have:∀d:Fin 10,PySem.intText? ⟨#[48+d.val]⟩=some ((48+d.val-48:Nat):Int):=by decide+kernel
   have:=this ⟨c-48,(XN ‹_›)⟩;exact (Nat.add_sub_cancel' (Nat.le_of_ble_eq_true h3))▸this
def Mf {x:Str}{i:Int}(h:AG x=some i):x.length<=640:=by
 obtain ⟨⟨l⟩⟩:=x
 induction l with
 |nil=>exact bD h
 |cons c l=>
  induction l with
  |cons=>exact bD h
  |nil=>show 1<=640;decide
def QB {as:List V}{lv:LV}{us:List Value}(h:blt .int as=some lv)(ag:k.g.In k.h)(hs:aO W.w k.g as us):ee W A k (PySem.call (.type "int") us) lv:=by(refine aw (oY h hs) λa u BJ hu h=>?_;subst BJ);refine jS h λx i H M h=>?_;obtain rfl:=oj h;obtain rfl:=wg H;obtain ⟨t,rfl⟩:=hu.j7;exact PySem.W.KIN.call_text (intText_of M) (Mf M) (mz ag)
end
def zA {α β:Type}{f:α->Option β}:∀{xs:List α}{ys:List β},a_ f xs=some ys->xs.length=ys.length/\∀(i:Nat)(x:α),xs[i]?=some x->∃y,ys[i]?=some y/\f x=some y:=by
 intro z_
 induction z_ with
 |nil=>intro ys h;obtain rfl:=oj h;exact ⟨rfl,λi x q=>aF q⟩
 |cons x xs ak=>
  intro ys h;(refine aw (jB h) λy zs fm H M=>?_;subst fm);obtain ⟨a,b⟩:=ak M;refine ⟨congrArg Nat.succ a,λi z q=>?_⟩
  induction i with
  |zero=>obtain rfl:=oj q;exact af y rfl H
  |succ i=>exact b i z q
section
variable{W:Wd} {A:Around} {k:az}
def oE.moved {g:Gh}{xs:List V}{J:Addr}{P:Nat->Value->Prop}{St:Nat->Heap->Prop}{s s':Shared}(it:oE W g xs J P St s s'){h':Heap}{tk:Nat}(hk:∀b o,b∉[J]->s'.heap.get? b=some o->h'.get? b=some o):
  ∃gQ ju,({s' with heap:=h',toks:=tk}:Shared)={s with heap:=gQ,toks:=ju}/\∀b o,s.heap.get? b=some o->gQ.get? b=some o:=by
 refine aG it.ext.rest λh₀ t₀ _ e=>ax h' tk (e.symm▸rfl) (λb o q=>hk b o (λz=>?_) (it.ext.kept b o q));rw [sE z] at q;exact absurd (Heap.lt_size q) (gW it.new.1)
def all_range {bs:List Bool}:(List.range bs.length).all (λi=>bs.getD i true)=bs.all id:=by
 rw [Bool.eq_iff_iff,List.all_eq_true,List.all_eq_true];constructor
 ·intro h b hb;obtain ⟨i,hi,rfl⟩:=List.getElem_of_mem hb;have:=h i (rI hi);rw [List.getD_eq_getElem?_getD,cM hi] at this;exact this
 ·intro h i hi;rw [List.getD_eq_getElem?_getD,cM (List.mem_range.mp hi)];exact h _ (List.getElem_mem (List.mem_range.mp hi))
def QC {as:List V}{lv:LV}{us:List Value}(hh:A.handled=none)(h:blt .all as=some lv)(ag:k.g.In k.h)(hs:aO W.w k.g as us):ee W A k (PySem.call (.builtin "all") us) lv:=by
 (refine aw (oY h hs) λa u eY hu h=>?_;subst eY);refine jS h λxs b H M h=>?_;obtain rfl:=oj h;refine aH M λbs h3 h4=>?_;obtain rfl:=oj h4;obtain rfl:=wj H;obtain ⟨hl,hb⟩:=zA h3;refine nu (call_all_walk (Q:=λr s'=>r=.bool (bs.all id)/\∃h' tk,s'={k.s with heap:=h',toks:=tk}/\∀b o,k.h.get? b=some o->h'.get? b=some o) (wB ag hu rfl λJ P St s it=>?_)) λr s' ht hz q=>?_
 ·refine aq (it.walks A.in1 hh) λfp Wk gZ=>⟨J,fp,[J],xs.length,P,St,λi=>bs.getD i true,rfl,Wk,it.st,λi v s Q E hP hQ=>?_,λh' tk hk=>⟨hl.symm▸all_range.symm▸rfl,?_⟩⟩
  ·refine aq (it.item i v hP) λx Y hv=>bc λkq=>aq (hb i x Y) λy hy e=>?_;have Y:x=.bool y:=by cases x<;>cases e;rfl
   subst Y
   cases hv.Ge
   refine kq ?_;exact wpAny_truthy_bool ((by refine List.getD_eq_getElem?_getD.symm▸hy.symm▸?_;rfl:bs.getD i true=y)▸hQ)
  ·exact it.moved hk
 ·obtain ⟨rfl,h',tk,rfl,hk⟩:=q;exact af k.g (.dZ ag ⟨(ax _ _ ht rfl),hz,hk⟩) (.val (.bool _))
end
def preSum_eq:∀(is:List Int) n,n<=is.length->preSum (λi=>is.getD i 0) n=(is.take n).sum
 |is,0,_=>by rw [List.take_zero];rfl
 |is,n+1,h=>by show preSum (λi=>is.getD i 0) n+is.getD n 0=_;rw [(preSum_eq is n (Nat.le_of_succ_le h)),List.getD_eq_getElem?_getD,cM h,List.take_succ_eq_append_getElem h,List.sum_append];simp
def w8 {is:List Int}(h:∀i∈is,0<=i/\i<=1048576)(j:Nat):0<=is.getD j 0/\is.getD j 0<=1048576:=by
 refine List.getD_eq_getElem?_getD.symm▸?_;generalize q:is[j]?=z_;induction z_ with
 |none=>exact ⟨Int.le_refl _,by decide⟩
 |some x=>exact h x (dU q)
def R6 {a b:Int}{n:Nat}(h:a<=n*1048576)(q:b<=1048576):a+b<=(n+1:Nat)*1048576:=by rw [Int.natCast_succ,Int.add_mul,Int.one_mul];exact Int.add_le_add h q
def I9 {a:Int}(h:0<=a)(q:a<=1048576*1048576):-(2^63)<=a/\a<2^63:=⟨Int.le_trans (by decide) h,Int.lt_of_le_of_lt q (by decide)⟩
def E0 {is:List Int}(h:∀i∈is,0<=i/\i<=1048576):∀n:Nat,0<=preSum (λi=>is.getD i 0) n/\preSum (λi=>is.getD i 0) n<=n*1048576:=by
 intro bz
 induction bz with
 |zero=>exact ⟨Int.le_refl _,by simp [preSum]⟩
 |succ aJ ak=>exact ⟨Int.add_nonneg ak.1 (w8 h aJ).1,R6 ak.2 (w8 h aJ).2⟩
section
variable{W:Wd} {A:Around} {k:az}
def QD {as:List V}{lv:LV}{us:List Value}(hh:A.handled=none)(h:blt .sum as=some lv)(ag:k.g.In k.h)(hs:aO W.w k.g as us):ee W A k (PySem.call (.builtin "sum") us) lv:=by
 refine bc λdK=>?_;(refine aw (oY h hs) λa u bu hu h=>?_;subst bu);refine Cr h λxs is H M h3 h4=>?_;obtain rfl:=oj h4;obtain rfl:=wj H;obtain ⟨h5,h6⟩:=iD h3;have h5:=cS h5;have h6:∀i∈is,0<=i/\i<=1048576:=λi hi=>by exact gK (aE h6 i hi) λp q=>⟨cS p,cS q⟩
 refine ay (zA M) λhl hb=>dK (nu (call_sum_walk (Q:=λr s'=>(∃t,r=.int is.sum t)/\∃h' tk,s'={k.s with heap:=h',toks:=tk}/\∀b o,k.h.get? b=some o->h'.get? b=some o) (wB ag hu rfl λJ P St s it=>?_)) λr s' ht hz q=>?_)
 ·refine aq (it.walks A.in1 hh) λfp Wk gZ=>⟨J,fp,[J],xs.length,P,St,λi=>is.getD i 0,rfl,Wk,it.st,λb hb=>?_,λi v hP=>?_,λj hj=>?_,λh' tk t' hk=>⟨⟨t',?_⟩,it.moved hk⟩⟩
  ·rcases gZ b hb with rfl|⟨o,ho⟩
   ·exact it.new.2
   ·exact lL (Heap.lt_size (ag _ _ ho)) it.ext.size
  ·refine aq (it.item i v hP) λx Y hv=>aq (hb i x Y) λy hy e=>?_;obtain rfl:=fW e;obtain ⟨t,rfl⟩:=hv.da;exact ⟨t,(by refine List.getD_eq_getElem?_getD.symm▸hy.symm▸?_;rfl:is.getD i 0=y)▸rfl⟩
  ·exact ⟨I9 (w8 h6 j).1 (Int.le_trans (w8 h6 j).2 (by decide)),I9 (E0 h6 (j+1)).1 (Int.le_trans (E0 h6 (j+1)).2 (Int.mul_le_mul_of_nonneg_right (Int.ofNat_le.mpr (nT (Nat.succ_le_of_lt (hl▸hj)) (nT h5 (nl rfl)))) (by decide)))⟩
  ·exact hl.symm▸(preSum_eq is _ (nR _)).symm▸List.take_length.symm▸rfl
 ·obtain ⟨⟨t,rfl⟩,h',tk,rfl,hk⟩:=q;exact af k.g (.dZ ag ⟨(ax _ _ ht rfl),hz,hk⟩) (.val (.int _ _))
end
section
variable{W:Wd} {A:Around} {k:az}
open Classical in
def ON (vH:(k.top==sysModules)=false){as:List V}{lv:LV}{us:List Value}(h:blt .dict as=some lv)(ag:k.g.In k.h)(hs:aO W.w k.g as us):ee W A k (PySem.call (.type "dict") us) lv:=by
 refine bc λcG=>?_;(refine aw (oY h hs) λa u bu hu h=>?_;subst bu);refine fS h λS H M h3=>?_;obtain rfl:=oj h3;obtain rfl:=zo H;obtain ⟨h3,h4⟩:=iD M;obtain ⟨b,rfl,o,ds,ep,q1,⟨q2,q3,q4,q5⟩,q6⟩:=hu.qN ag;have val:=λe he x Y=>by exact (Bool.or_eq_true_iff.mp h4).elim (λh4=>((sS (q4.alike h4 e he x Y)).trans rfl)) (λh4=>((sS (q4.alike h4 e he x Y)).trans rfl))
 refine bW (Bx q6 val) λaR R p q=>cG ?_;refine kt_call_dict q5 ((uF o ds ep q1 q2 q3 (λe he=>q e (Array.mem_toList_iff.mpr he)) p (R.nodup q4))) (by refine R.length▸j8.symm▸?_;have:=fit_le h3;exact nT ‹_› (nl rfl)) λh' D2 sb=>?_;refine xZ D2 λo' gn JR r1 r2 r3 r4 r5 r6=>?_;exact ⟨k.g,.dZ ag ⟨(ax _ _ (nR _) rfl),by show k.top<=h'.objs.size;refine (by rw [sb.1,Heap.size_push]:h'.objs.size=k.top+1).symm▸?_;exact lS _,(λb o e=>(sb.2 b (Nat.ne_of_lt (Heap.lt_size e))).trans (Heap.get?_push_of_some _ e))⟩,k.top,⟨rfl,o',gn,JR,r1,(eQ r2 r3 q4 vH),HP R r5 λe he=>r4 e (Array.mem_toList_iff.mp he)⟩,λ_=>⟨nR _,ag.none (nR _)⟩⟩
end
set_option backward.match.sparseCases true
section
variable{α:Type} {lt:α->α->Bool}
def E3 (x:α)(l:List α):(fO lt x l).Perm (x::l):=by
 induction l with
 |nil=>exact .refl _
 |cons y r ih=>
  unfold fO
  cases lt x y with
  |true=>exact .refl _
  |false=>exact (ih.cons y).trans (.swap ..)
def Mg (l:List α):(bZ lt l).Perm l:=by
 induction l with
 |nil=>exact .refl _
 |cons x r ih=>exact (E3 x _).trans (ih.cons x)
def Lm (as:∀a b,lt a b=true->lt b a=false)(tr:∀a b c,lt b a=false->lt c b=false->lt c a=false)(x:α)(l:List α)(h:l.Pairwise λa b=>lt b a=false):(fO lt x l).Pairwise λa b=>lt b a=false:=by
 induction l with
 |nil=>exact List.pairwise_singleton ..
 |cons y r ih=>
  refine ay (lQ h) λH M=>?_;unfold fO;generalize q:lt x y=z_;induction z_ with
  |true=>
   refine List.pairwise_cons.mpr ⟨λz hz=>?_,h⟩;rcases mE hz with rfl|hz
   ·exact as _ _ q
   ·exact tr _ _ _ (as _ _ q) (H z hz)
  |false=>
   refine List.pairwise_cons.mpr ⟨λz hz=>?_,ih M⟩;rcases mE ((E3 x r).mem_iff.mp hz) with rfl|hz
   ·exact q
   ·exact H z hz
def FC (as:∀a b,lt a b=true->lt b a=false)(tr:∀a b c,lt b a=false->lt c b=false->lt c a=false)(an:∀a b,lt b a=false->lt a b=false->a=b){l out:List α}(hp:out.Perm l)(hs:out.Pairwise λa b=>lt b a=false):out=bZ lt l:=by
 refine List.Perm.eq_of_pairwise (λa b _ _=>an a b) hs ?_ (hp.trans (Mg l).symm);clear hp hs
 induction l with
 |nil=>exact .nil
 |cons x r ih=>exact Lm as tr x _ ih
end
def OO {l out:List Int}(hp:out.Perm l)(hs:out.Pairwise (·<=·)):out=bZ lR l:=
 FC (lt:=lR) (λa b h=>dF (Int.not_lt.mpr (Int.le_of_lt (cS h)))) (λa b c h g=>dF (Int.not_lt.mpr (Int.le_trans (Int.not_lt.mp (of_decide_eq_false h)) (Int.not_lt.mp (of_decide_eq_false g)))))
  (λa b h g=>Int.le_antisymm (Int.not_lt.mp (of_decide_eq_false h)) (Int.not_lt.mp (of_decide_eq_false g))) hp (hs.imp λh=>dF (Int.not_lt.mpr h))
def nz {a b:Str}:fR b a=false↔a.cps.toList<=b.cps.toList:=by delta fR;rw [decide_eq_false_iff_not];exact List.not_lt
def Nm:∀{p:Str}{l:List Str},risingS p l=true->(p::l).Pairwise λa b=>fR b a=false:=by
 intro p z_
 induction z_ generalizing p with
 |nil=>intro _;exact List.pairwise_singleton ..
 |cons x r ak=>
  intro h;refine gK h λH M=>?_;have Y:fR x p=false:=by rw [ltCps_eq] at H;simpa [fR] using H
  refine List.pairwise_cons.mpr ⟨λz hz=>?_,(ak M)⟩;rcases mE hz with rfl|hz
  ·exact Y
  ·exact nz.mpr (List.le_trans (nz.mp Y) (nz.mp ((lQ (ak M)).1 z hz)))
def OP {l out:List Str}(hp:out.Perm l)(hs:sortedS out=true):out=bZ fR l:=
 FC (lt:=fR) (λa b h=>dF (List.lt_asymm (cS h))) (λa b c h g=>nz.mpr (List.le_trans (nz.mp h) (nz.mp g)))
  (λa b h g=>by
   have e:=List.le_antisymm (nz.mp h) (nz.mp g);obtain ⟨⟨x⟩⟩:=a;obtain ⟨⟨y⟩⟩:=b;subst e;rfl) hp (by induction out with
   |nil=>exact .nil
   |cons x r=>exact Nm hs)
section
variable{w:World} {A:Around} {s:Shared}
def QE {d:Addr}{ds:Array DictEntry}{ep:Nat}(lo:(d==sysModules)=false):KdlSrc pw w "dict" d d ds.size (λi v=>(ds[i]?).map (·.key)=some v) (λh=>oW h d ds ep) where
 type:=λ_ ⟨o,ho,hc,_⟩=>af o ho hc.1
 there:=λ_ ⟨o,ho,_⟩=>⟨Heap.lt_size ho,Heap.lt_size ho⟩
 keep:=λ_ _ kn hk=>aq kn λo ho r=>af o (hk d (.inl rfl) o ho) r
 notList:=by decide
 notTuple:=by decide
 hint:=λ_ _ _ _ ⟨o,ho,hc,_⟩ hq=>kdl_hint_dict (af o ho hc.1) hq
 iter:=λA s hh hm=>aD _ _ (λ_ _ hq=>Ft lo hm hq) (Walks.raw hh _ d (by refine aq hm λo ho _=>?_;exact Nat.ne_of_lt (Heap.lt_size ho)) ds ep) ⟨(bX _ (Heap.get?_push_size _ rfl) rfl rfl),aq hm λo a r=>(af o (Heap.get?_push_of_some _ a) r)⟩
def Lo {d:Addr}{ds:Array DictEntry}{ep:Nat}{Q:List Value->Shared->Prop}(lo:(d==sysModules)=false)(hh:A.handled=none)(hm:oW s.heap d ds ep)(hn:ds.size<=sizeLine)
  (hQ:∀h' tk (acc:List Value),(∀b o,s.heap.get? b=some o->h'.get? b=some o)->acc=ds.toList.map (·.key)->Q acc {s with heap:=h',toks:=tk}):wpAny (Md w) A (collect (.ref d)) Q aA s:=by
 have fT:d<s.heap.objs.size:=by refine aq hm λo ho _=>?_;exact Heap.lt_size ho
 refine wpAny_bind (wpAny_runValue (codeAny_builtin PySem.F.entry_proto_collect (wpAny_bind (wpAny_newObj_type (wpAny_pure ⟨plainId_quiet PySem.F.plain_list_iadd _,codeAny_builtin PySem.F.entry_list_iadd ((Around.under_plainId PySem.F.plain_list_iadd _).symm▸?_)⟩)))));have hk:∀b o,s.heap.get? b=some o->(s.heap.push {cls:=.type "list",data:=.seq ([]).toArray}).get? b=some o:=λb o e=>Heap.get?_push_of_some _ e;have I_:∀h' tk acc c,(∀b o,b≠s.heap.objs.size->(s.heap.push {cls:=.type "list",data:=.seq ([]).toArray}).get? b=some o->h'.get? b=some o)->h'.get? s.heap.objs.size=some {cls:=.type "list",dict:=none,data:=.seq acc c,slots:=#[]}->ItemsOf (λi v=>(ds[i]?).map (·.key)=some v) acc ds.size->
   wpAny (Md w) A (load s.heap.objs.size>>=λo=>match o.data with|.seq xs _=>pure xs.toList|_=>unsupported "internal:collect") Q aA {s with heap:=h',toks:=tk}:=λh' tk acc c H M h3=>by
  refine wpAny_bind (wpAny_load M (wpAny_pure (hQ h' tk acc.toList (λb o e=>H b o (Nat.ne_of_lt (Heap.lt_size e)) (hk b o e)) (List.ext_getElem? λi=>ay h3 λz1 z2=>?_))));by_cases q:i<ds.size
  ·have hi:i<acc.size:=by rw [z1];exact q
   have:=z2 i acc[i] (Array.getElem?_eq_getElem hi);exact Array.getElem?_toList.symm▸(Array.getElem?_eq_getElem hi).symm▸List.getElem?_map.symm▸Array.getElem?_toList.symm▸this.symm▸rfl
  ·refine Array.getElem?_toList.symm▸List.getElem?_map.symm▸Array.getElem?_toList.symm▸(Array.getElem?_eq_none (by rw [z1];exact Nat.le_of_not_lt q)).symm▸(Array.getElem?_eq_none (Nat.le_of_not_lt q)).symm▸?_;rfl
 refine wpAny_mono (kdl_extend (R:=λr s'=>r=.ok (.ret (.ref s.heap.objs.size))/\∃h' tk acc c,(∀b o,b≠s.heap.objs.size->(s.heap.push {cls:=.type "list",data:=.seq ([]).toArray}).get? b=some o->h'.get? b=some o)/\h'.get? s.heap.objs.size=some {cls:=.type "list",dict:=none,data:=.seq acc c,slots:=#[]}/\ItemsOf (λi v=>(ds[i]?).map (·.key)=some v) acc ds.size/\s'={s with heap:=h',toks:=tk})
  (QE (ep:=ep) lo) hh (by refine aq hm λo ho r=>?_;exact (af o (hk _ _ ho) r)) _ (Nat.ne_of_gt fT) (Nat.ne_of_gt fT) _ _ (Heap.get?_push_size _ rfl) (λh' tk acc c H M h3=>⟨rfl,h',tk,acc,c,H,M,h3,rfl⟩) hn) (λfin s' h=>?_) (λe s' h=>?_)
 ·induction fin with
  |done f=>refine bc λjr=>bc λmV=>bc λWU=>?_;obtain ⟨e,h',tk,acc,c,H,M,h3,rfl⟩:=h;(injection e with q_;subst q_);exact WU (mV (jr (I_ h' tk acc c H M h3)))
  |again c'=>exact ⟨h.1,codeAny_mono h.2 λr jT hr=>by obtain ⟨rfl,h',tk,acc,c,H,M,h3,rfl⟩:=hr;exact I_ h' tk acc c H M h3⟩
 ·exact absurd h.1 (by simp)
end
section
variable{W:Wd} {A:Around} {k:az} {g:Gh}
def QF:∀{xs:List V}{T:List Value}{is:List Int},aO W.w g xs T->a_ c8 xs=some is->IntsAre T is:=by
 intro z_
 induction z_ with
 |nil=>
  intro T is h e
  cases h.nil_of;obtain rfl:=oj e;exact .nil
 |cons x xs ak=>intro T is h e;(refine aw (jB e) λy ys pM H M=>?_;subst pM);(refine aw h.cons_of λu us jr a b=>?_;subst jr);obtain rfl:=fW H;obtain ⟨t,rfl⟩:=a.da;exact .cons _ _ (ak b M)
def QG:∀{xs:List V}{T:List Value}{is:List Str},aO W.w g xs T->a_ Mine.strOf xs=some is->StrsAre T is:=by
 intro z_
 induction z_ with
 |nil=>
  intro T is h e
  cases h.nil_of;obtain rfl:=oj e;exact .nil
 |cons x xs ak=>intro T is h e;(refine aw (jB e) λy ys pN H M=>?_;subst pN);(refine aw h.cons_of λu us pO a b=>?_;subst pO);obtain rfl:=wg H;obtain ⟨t,rfl⟩:=a.j7;exact .cons _ _ (ak b M)
def QH {T:List Value}{is:List Int}(h:IntsAre T is):aO W.w g (is.map .int) T:=by
 induction h with
 |nil=>exact .nil
 |cons n t _ ih=>exact .cons (.int _ _) ih
def QI {T:List Value}{is:List Str}(h:StrsAre T is):aO W.w g (is.map .str) T:=by
 induction h with
 |nil=>exact .nil
 |cons n t _ ih=>exact .cons (.str _ _) ih
def sortedHeap_at {h:Heap}{a:Addr}{xs:Array Value}{n:Nat}(ho:h.get? a=some (seqObj "list" xs n))(T:List Value)(out:Array Value):
  ∃e,(sortedHeap h a T out).objs.size=h.objs.size+2/\(sortedHeap h a T out).get? a=some (seqObj "list" out e)/\∀b o,b≠a->h.get? b=some o->(sortedHeap h a T out).get? b=some o:=by
 refine bX _ ?_ (get?_update_seq (Heap.get?_push_of_some (seqObj "list" #[] 0) (Heap.get?_push_of_some (seqObj "tuple" T.toArray 0) (get?_update_seq ho λ_=>#[]))) λ_=>out) (λb o hb e=>?_)
 ·delta sortedHeap;rw [Heap.size_update,Heap.size_push,Heap.size_push,Heap.size_update]
 ·delta sortedHeap;refine (Heap.get?_update_other _ _ (Ne.symm hb)).trans (Heap.get?_push_of_some _ (Heap.get?_push_of_some _ ((Heap.get?_update_other _ _ (Ne.symm hb)).trans e)))
def Mh {T:List Value}{ss:List Str}(hS:StrsAre T ss){a:Addr}{n:Nat}{P:Fin->Shared->Prop}{s:Shared}(ho:s.heap.get? a=some (seqObj "list" T.toArray n))(sC:T.length<64)
  (h:∀(out:Array Value)(vK:List Str),StrsAre out.toList vK->vK.Perm ss->sortedS vK=true->P (.done (.ret .none)) {s with heap:=sortedHeap s.heap a T out}):wpAny (Md W.w) A (Builtin.«list.sort» ⟨[.ref a],[]⟩) P aA s:=
 list_sort_treeK strKind_oneLt ho hS.keysOf (λY9 Y_ rest e=>keyKind_strs (e▸hS)) sC λZq hp hs=>by exact bW (sorted_out_str hS hp hs) λvK H M h3=>h _ vK H M h3
def Mi {as:List V}{lv:LV}{us:List Value}(hh:A.handled=none)(h:blt .sorted as=some lv)(ag:k.g.In k.h)(hs:aO W.w k.g as us):ee W A k (PySem.call (.builtin "sorted") us) lv:=by
 refine bc λBY=>?_;(refine aw (oY h hs) λa u WV hu h=>?_;subst WV);refine IX h λS xs H M h3 h=>?_;(injection h with q_;subst q_);obtain rfl:=zo H;obtain ⟨b,rfl,o,ds,ep,q1,⟨q2,q3,q4,q5⟩,q6⟩:=hu.qN ag;refine BY ?_;have hlen:(ds.toList.map (·.key)).length<64:=by rw [<-q6.keys.length,lM];exact (cS M)
 refine Calls.call_function_entry kind_sorted plain_sorted entry_sorted (args_sorted1 _) (wpAny_bind (wpAny_pure ?_));refine wpAny_bind (nu (Lo (Q:=λl s'=>l=ds.toList.map (·.key)/\∃h' tk,(∀b o,k.h.get? b=some o->h'.get? b=some o)/\s'={k.s with heap:=h',toks:=tk}) q5 hh (bX o q1 q2 q3) (by rw [lM,Array.length_toList] at hlen;rw [sizeLine_eq];exact nT (Nat.le_of_lt hlen) (nl rfl)) λh' tk acc H M=>⟨M,h',tk,H,rfl⟩) λl s' ht hz q=>?_);obtain ⟨rfl,h',tk,hk,rfl⟩:=q;refine wpAny_bind (wpAny_newList ?_);have ho:(h'.push (seqObj "list" (ds.toList.map (·.key)).toArray 0)).get? h'.objs.size=some (seqObj "list" (ds.toList.map (·.key)).toArray 0):=eR rfl;have fin:∀out:Array Value,aO W.w k.g xs out.toList->∃g,n3 W k (.ml xs) (.ref h'.objs.size) ⟨g,k.loc,{k.s with heap:=sortedHeap (h'.push (seqObj "list" (ds.toList.map (·.key)).toArray 0)) h'.objs.size (ds.toList.map (·.key)) out,toks:=tk}⟩:=λout hr=>by refine bW (sortedHeap_at ho (ds.toList.map (·.key)) out) λe1 H M h3=>?_;exact ⟨k.g,.dZ ag ⟨(ax _ _ ht rfl),by show k.top<=(sortedHeap ..).objs.size;rw [H,Heap.size_push];exact Nat.le_add_right_of_le (lB hz),λb o e=>h3 b o (Nat.ne_of_lt (Heap.lt_size (hk b o e))) (Heap.get?_push_of_some _ (hk b o e))⟩,h'.objs.size,⟨rfl,out,e1,M,hr⟩,λ_=>⟨hz,ag.none hz⟩⟩
 generalize hi:a_ c8 (S.map (·.1))=z_;induction z_ with
 |some is=>unfold sorted at h3;replace h3:=hi▸h3;obtain rfl:=oj h3;refine wpAny_bind (wpAny_holding (wpAny_call_entry slot_list_sort (af _ ho rfl) entry_list_sort (list_sort_tree ho (QF q6.keys hi) hlen λout yL a1 a2 a3=>(af _ rfl ?_)) (args_list_sort _)));obtain rfl:=OO a2 a3;exact wpAny_pure (af _ rfl (fin out (QH a1)))
 |none=>unfold sorted at h3;replace h3:=hi▸h3;refine aH h3 λss h4 h5=>?_;obtain rfl:=oj h5;refine wpAny_bind (wpAny_holding (wpAny_call_entry slot_list_sort (af _ ho rfl) entry_list_sort (Mh (QG q6.keys h4) ho hlen λout yL a1 a2 a3=>(af _ rfl ?_)) (args_list_sort _)));obtain rfl:=OP a2 a3;exact wpAny_pure (af _ rfl (fin out (QI a1)))
end
set_option backward.match.sparseCases false
def R7 {W:Wd}(au:Tp W):HT W:=λ{b as lv A k us} h hu hh h0 ag hs=>by
 induction b with
 |len=>exact aF h
 |range=>exact Nk h ag hs
 |sorted=>exact Mi hh h ag hs
 |tuple=>exact Nl h ag hs
 |dict=>exact ON (by have:=au.size _ h0;rw [beq_eq_false_iff_ne];exact Nat.ne_of_gt (Nat.lt_of_le_of_lt (nl rfl) this)) h ag hs
 |all=>exact QC hh h ag hs
 |max=>exact Qy hh h ag hs
 |min=>exact Qz hh h ag hs
 |sum=>exact QD hh h ag hs
 |int=>exact QB h ag hs
 |str=>exact QA h ag hs
def QJ {W:Wd}(au:Tp W)(C:Cl W):gh W:=⟨au,C,R7 au,R5⟩
structure UT (az:Frag)(C:Addr)(c:Str)(eI:Nat×Nat->Addr):Prop where
 ga:findIn az (.ref C) "__getattribute__"=some (some (.builtin "object.__getattribute__"))
 gt:findIn az (.ref C) "__getattr__"=some none
 sa:findIn az (.ref C) "__setattr__"=some (some (.builtin "object.__setattr__"))
 po:plainOver az C=true
 hd:(clsIn az C).any (·.hasDict)=true
 fld:∀n,je n=true->findIn az (.ref C) n=some none
 sD:∀m i,nM c m=some i->findIn az (.ref C) m=some (some (.ref (eI i)))/\typeIn az (.ref (eI i))=some (.type "function")
 made:makesIn az C=true
def Mj {h:Heap}{d:Addr}{f:Str->Option Value}(x:h.Ns1 d f):∃o,h.get? d=some o/\∀n,lookIn n o=some (f n):=by
 refine mI x λo S ep e1 e2 e3 e4 e5=>af o e1 (λn=>?_);have hr:S.toList.any (·.refKey)=false:=by rw [Array.any_toList,Array.any_eq_false'];intro e he;refine c9 (e3 e he) λn t h=>?_;simp [DictEntry.refKey,h]
 have e5:=e5 n;unfold nsFind findBy at e5;delta lookIn;refine e2.symm▸?_;dsimp only;refine hr.symm▸e5▸Array.find?_toList▸?_
 cases S.toList.find? (·.key.isStr n)<;>rfl
section
variable{W:Wd} {A:Around} {s:Shared} {c:Str} {a d:Addr} {f:Str->Option Value}
structure CQ (W:Wd)(az:Frag):Prop where
 ag:∀h,gx W h->az.In h
 cls:∀c,(f5.lookup c).isSome=true->UT az (W.eE c) c W.eI
set_option tactic.hygienic true in
def pd.at (x:pd W s.heap c a d f):∃ox od,InstAt s.heap a ox (W.eE c) (some od)/\ox.dict=some d/\∀n,lookIn n od=some (f n):=by
 refine bc λcx=>?_;obtain ⟨_,⟨ox,a1,a2,a3,a4⟩,_,ns,_⟩:=x;refine aq (Mj ns) λod b1 b2=>cx ?_;refine aD ox od ⟨a1,a2,?_,by refine a4.symm▸?_;exact b1⟩ a4 b2;delta notCls;split
 ·rename_i z q;exact absurd q (a3 z)
 ·rfl
def Gp {az:Frag}{C:Addr}(h:(clsIn az C).any (·.hasDict)=true):∃cd,clsIn az C=some cd/\cd.hasDict=true:=by
 generalize e:clsIn az C=z_;induction z_ with
 |none=>replace h:=e▸h;exact aS h
 |some cd=>replace h:=e▸h;exact af cd rfl h
def Nn {h:Heap}{f:Str->Option Value}(x:h.Ns1 d f)(on:∀y,(f y).isSome=true->je y=true):∃o S ep,h.get? d=some o/\o.data=.dict S ep/\S.size<=fieldNames.length:=by
 refine mI x λo S ep e1 e2 e3 e4 e5=>gf o S ep e1 e2 ?_
 let nm:DictEntry->Str:=λe=>match e.key with|.str n _=>n|_=>⟨#[]⟩
 have Dl:=λe he=>by refine c9 ((λe he=>e3 e (Array.mem_toList_iff.mp he)) e he) λn t q=>?_;show e.key.isStr (match e.key with|.str n _=>n|_=>⟨#[]⟩)=true;exact q.symm▸(beq_self_eq_true n)
 have nd:(S.toList.map nm).Nodup:=by rw [List.nodup_iff_pairwise_ne,List.pairwise_map];refine List.Pairwise.imp_of_mem (λ{a b} ha hb h q=>?_) e4;exact h (nm a) (Dl a ha) (by refine q.symm▸?_;exact Dl b hb)
 have sub:S.toList.map nm⊆fieldNames:=λn hn=>by
  (refine bT hn λe he dn=>?_;subst dn);have:=on (nm e) (by rw [<-e5];delta nsFind findBy;rw [Option.isSome_map,<-Array.find?_toList,List.find?_isSome];exact (af e he (Dl e he)))
  exact cE this
 have:=nd.length_le_of_subset sub
 rwa [lM,Array.length_toList] at this
def UU {az:Frag}(X:CQ W az):Cl W where
 load:=λ{c m A s a d f u expr Q} hm h0 x hu hh q=>by have C:=X.cls c x.known;refine bc λm5=>aw x.at λox od I _ hl=>aq (Gp C.hd) λcd hc hd=>m5 (get_value (X.ag _ h0) I C.ga ?_ hh (q _ (lS _)));delta findObj;refine hc.symm▸(C.fld m hm).symm▸?_;show(PySem.W.ownOf cd (some od) m).bind _=_;delta PySem.W.ownOf;rw [hd,if_pos rfl];dsimp only;rw [hl,hu];rfl
 mU:=λ{c m i A s a d f pl Q} hm h0 x hn q=>by have C:=X.cls c x.known;refine aw x.at λox od I _ hl=>?_;exact method_fn (X.ag _ h0) I C.ga C.gt (C.sD m i hm).1 (C.sD m i hm).2 (by show(lookIn m od).map (·.isSome)=_;rw [hl,hn];rfl) q
 store:=λ{c m A s a d f v Q} hm h0 x q=>by
  have C:=X.cls c x.known;refine bc λuP=>aw x.at λox od I J1 hl=>aq (Gp C.hd) λcd hc hd=>uP ?_;refine set_plain (X.ag _ h0) I C.sa (osa_open (X.ag _ h0) I C.po (by delta takerIn;rw [C.fld m hm];rfl) λb=>?_);refine bc λmV=>?_;obtain ⟨Y,lY,hn,-⟩:=I;obtain ⟨oc,Zr,Zs,Zt⟩:=ox;dsimp only at lY J1;subst lY J1;refine mV (wpAny_bind (wpAny_pure (wpAny_bind (wpAny_bind (wpAny_loadPart Y (wpAny_bind (Looks.here (looks_clsIn (X.ag _ h0) hc) (hd.symm▸(wpAny_pure (wpAny_bind (wpAny_pure (wpAny_bind (wpAny_nsSet1 x.ns λh' yL sb=>?_)))))))))))));obtain ⟨o',S,ep,e1,e2,e3⟩:=Nn yL λy q=>by
   by_cases e:y=m
   ·exact e▸hm
   ·rw [if_neg e] at q;exact x.only y q
  refine wpAny_bind (wpAny_lookBehind e1 (by refine e2.symm▸?_;exact pastItsLine_dict (nT e3 (nl rfl))) (wpAny_pure ?_));exact q _ _ (lB (lS _)) yL sb
set_option tactic.hygienic true in
def QK {az:Frag}(X:CQ W az):CP W where
 make:=λ{c i} hi h h0=>by have C:=X.cls c (zf hi);exact bx (makes_of (X.ag _ h0) C.made) (looks_findIn (X.ag _ h0) (C.sD _ _ hi).1) (λself=>bind_fn (X.ag _ h0) self (C.sD _ _ hi).2)
 keep:=λ{c i} hi h h0=>by
  have C:=X.cls c (zf hi);have e:=C.made;unfold makesIn at e;split at e
  ·rename_i oc od cd sl ho;simp only [Bool.and_eq_true,beq_iff_eq] at e;exact (Looks.ld (X.ag _ h0 _ _ ho)).andThen ((looks_specialIn (X.ag _ h0) e.1.2).andThen (.now))
  ·exact aS e
end
noncomputable def H3:Data->Option (List DictEntry)
 |.dict S _=>some S.toList
 |_=>none
noncomputable def Ja:Data->Option (List Value)
 |.seq T _=>some T.toList
 |_=>none
noncomputable def w9:Data->Option (Array Value)
 |.fields T=>some T
 |_=>none
noncomputable def H4:Data->Option FuncData
 |.func fd=>some fd
 |_=>none
noncomputable def G_:Data->Bool
 |.plain=>true
 |_=>false
noncomputable def m6:Value->Option Addr
 |.ref a=>some a
 |_=>none
noncomputable def vd:Value->Option Str
 |.str s _=>some s
 |_=>none
noncomputable def rU:Value->Option Int
 |.int i _=>some i
 |_=>none
noncomputable def H5:Value->Option Bool
 |.bool b=>some b
 |_=>none
noncomputable def Jb:Value->Option String
 |.builtin b=>some b
 |_=>none
noncomputable def H6:Value->Option String
 |.type b=>some b
 |_=>none
noncomputable def BZ:Value->Bool
 |.none=>true
 |_=>false
section
variable{d:Data} {v:Value}
def Mk {l:List DictEntry}(h:H3 d=some l):∃S ep,d=.dict S ep/\S.toList=l:=by
 induction d with
 |dict S ep=>exact ax S ep rfl (oj h)
 |_=>exact aF h
def Np {l:List Value}(h:Ja d=some l):∃T m,d=.seq T m/\T.toList=l:=by
 induction d with
 |seq S ep=>exact ax S ep rfl (oj h)
 |_=>exact aF h
def zg {l:Array Value}(h:w9 d=some l):d=.fields l:=by
 induction d with
 |fields T=>exact congrArg _ (oj h)
 |_=>exact aF h
def Ml {l:FuncData}(h:H4 d=some l):d=.func l:=by
 induction d with
 |func T=>exact congrArg _ (oj h)
 |_=>exact aF h
def Nq (h:G_ d=true):d=.plain:=by
 induction d with
 |plain=>rfl
 |_=>exact aS h
def nB {a:Addr}(h:m6 v=some a):v=.ref a:=by
 induction v with
 |ref b=>exact congrArg _ (oj h)
 |_=>exact aF h
def sT {a:Str}(h:vd v=some a):∃t,v=.str a t:=by
 induction v with
 |str b t=>exact ⟨t,congrArg (Value.str · t) (oj h)⟩
 |_=>exact aF h
def sU {a:Int}(h:rU v=some a):∃t,v=.int a t:=by
 induction v with
 |int b t=>exact ⟨t,congrArg (Value.int · t) (oj h)⟩
 |_=>exact aF h
def Mm {a:Bool}(h:H5 v=some a):v=.bool a:=by
 induction v with
 |bool b=>exact congrArg _ (oj h)
 |_=>exact aF h
def Nr {a:String}(h:Jb v=some a):v=.builtin a:=by
 induction v with
 |builtin b=>exact congrArg _ (oj h)
 |_=>exact aF h
def Mn {a:String}(h:H6 v=some a):v=.type a:=by
 induction v with
 |type b=>exact congrArg _ (oj h)
 |_=>exact aF h
def OQ (h:BZ v=true):v=.none:=by
 induction v with
 |none=>rfl
 |_=>exact aS h
end
section
variable(g:Addr->Option Obj)
noncomputable def sF (a:Addr):Option (List DictEntry):=(g a).bind λo=>H3 o.data
noncomputable def Ha (e:DictEntry):Bool:=(vd e.key).isSome
noncomputable def cN (S:List DictEntry)(n:Str):Option Value:=(S.find? (·.key.isStr n)).map (·.val)
noncomputable def ur (v:Option Value):Option Addr:=v.bind m6
noncomputable def H7 (f:Value->Option V)(e:DictEntry):Option (Int×V):=(rU e.key).bind λi=>guard (e.hash==hashInt i) ((f e.val).bind λv=>some (i,v))
noncomputable def UW (f:Value->Option V)(a:Addr)(o:Obj):Option V:=match o.data with
 |.seq T _=>guard (o.cls==.type "tuple") ((a_ f T.toList).bind λxs=>some (.tup xs))
 |.dict S _=>guard (o.cls==.type "dict"&&o.dict.isNone&&o.slots.isEmpty&&a !=sysModules) ((a_ (H7 f) S.toList).bind λS=>guard (decide (S.map (·.1)).Nodup) (some (.dict (S.map λe=>(.int e.1,e.2)))))
 |_=>none
noncomputable def rA:Nat->Value->Option V
 |0,_=>none
 |n+1,v=>match v with
  |.none=>some .none
  |.bool b=>some (.bool b)
  |.int i _=>some (.int i)
  |.str s _=>some (.str s)
  |.ref a=>(g a).bind (UW (rA n) a)
  |_=>none
noncomputable def B1 (v:Value):Option (List V):=cond (BZ v) (some []) ((m6 v).bind λt=>(g t).bind λo=>(Ja o.data).bind λT=>a_ (rA g 3) T)
noncomputable def Hb (v:Value)(q:Str):Bool:=((m6 v).bind λc=>(g c).bind λo=>(w9 o.data).bind λT=>(T[1]?:Option Value).bind vd)==some q
set_option genInjectivity true in
structure oH where
 body:FuncBody
 scope:Scope
 glob:Addr
 blt:Addr
 JY:Bool
 params:Arguments
 lW:Option (List V)
 code:Bool
noncomputable def rh (a:Addr):Option oH:=(g a).bind λo=>(H4 o.data).bind λfd=>some ⟨fd.body,fd.scope,fd.globals,fd.builtins,fd.closure.isEmpty,fd.params,B1 g fd.defaults,Hb g fd.code fd.qualname⟩
end
noncomputable def mr (i:Nat×Nat):Option oH:=(kY i).bind λs=>match s with
 |.FunctionDef _ a b _ _ _ sc _ _ _=>some ⟨.stmts b,sc,mainGlobals,builtinsNs,true,a,a_ o9 a.defaults,true⟩
 |_=>none
noncomputable def xw (a:Arguments):Bool:=a.posonlyargs.isEmpty&&a.kwonlyargs.isEmpty&&a.vararg.isNone&&a.kwarg.isNone&&decide (a.defaults.length<=a.args.length)
noncomputable def H8 (i:Nat×Nat):Bool:=match kY i with
 |some (.FunctionDef _ a b _ _ _ sc _ _ _)=>xw a&&(a_ o9 a.defaults).isSome&&fK.ok ⟨a.args.map (·.arg),a.defaults,b,sc⟩
 |_=>false
def QL:(k9.all λp=>H8 p.1)=true:=by decide+kernel
section
variable{w:World} {I:Addr->Option Obj} {ρ:List (Addr×Addr)} {g:Addr->Option Obj}
def zU {f:Value->Option V}(hf:∀v x,f v=some x->VR w ⟨I,ρ⟩ x v):∀{T:List Value}{xs:List V},a_ f T=some xs->aO w ⟨I,ρ⟩ xs T:=by
 intro z_
 induction z_ with
 |nil=>intro xs h;obtain rfl:=oj h;exact .nil
 |cons v T ak=>intro xs h;(refine aw (jB h) λy ys fm H M=>?_;subst fm);exact .cons (hf _ _ H) (ak M)
def OS {f:Value->Option V}(hf:∀v x,f v=some x->VR w ⟨I,ρ⟩ x v):∀{ds:List DictEntry}{S:List (Int×V)},a_ (H7 f) ds=some S->dW w ⟨I,ρ⟩ (S.map λe=>(.int e.1,e.2)) ds:=by
 intro z_
 induction z_ with
 |nil=>intro S h;obtain rfl:=oj h;exact .nil
 |cons d ds ak=>intro S h;(refine aw (jB h) λy ys eV H M=>?_;subst eV);refine IX H λi v h3 h5 h7 h8=>?_;obtain rfl:=oj h8;obtain ⟨hs,k,val⟩:=d;(refine aM (sU h3) λt jq=>?_;subst jq);exact .cons (d:=.int i) (.int i t) rfl ((bE h5).trans (by delta jE;rfl)) (hf _ _ h7) (ak M)
def QM {S:List (Int×V)}:a_ (λe:V×V=>cp 8 e.1) (S.map λe=>(.int e.1,e.2))=some (S.map λe=>D.int e.1):=by
 induction S with
 |nil=>rfl
 |cons e S ih=>show((cp 8 (.int e.1)).bind _)=_;show Option.bind (a_ _ _) _=_;refine ih.symm▸?_;rfl
def zV (hg:∀a o,g a=some o->I a=some o):∀{n:Nat}{v:Value}{x:V},rA g n v=some x->VR w ⟨I,ρ⟩ x v:=by
 intro z_
 induction z_ with
 |zero=>intro v x h;exact bD h
 |succ n ak=>
  intro v x h
  induction v with
  |none=>obtain rfl:=oj h;exact .none
  |bool b=>obtain rfl:=oj h;exact .bool b
  |int i t=>obtain rfl:=oj h;exact .int i t
  |str s t=>obtain rfl:=oj h;exact .str s t
  |ref a=>
   refine aH h λo H M=>?_;obtain ⟨c,d,dt,sl⟩:=o
   induction dt with
   |seq T m=>refine yE M λxs h3 h5 h6=>?_;(injection h6 with q_;subst q_);exact .tup (hg _ _ H) (bE h3) rfl (zU (λv x q=>ak q) h5)
   |dict ds ep=>
    refine WC M λS h3 h5 h7 h8=>?_;obtain rfl:=oj h8;simp only [Bool.and_eq_true,beq_iff_eq,Option.isNone_iff_eq_none,Array.isEmpty_iff,bne_iff_ne] at h3;refine ay h3 λCH c4=>ay CH λCO c3=>ay CO λc1 c2=>.dict (hg _ _ H) (eQ (bx c1 c2 c3) rfl (bX _ QM ?_ ?_) (bN c4)) (OS (λv x q=>ak q) h5)
    ·have:=cS h7;rw [List.nodup_iff_pairwise_ne,List.pairwise_map] at this⊢;exact this.imp λh q=>h (D.int.inj q)
    ·intro a ha b hb;(refine bT ha λ_ _ CD=>?_;subst CD);(refine bT hb λ_ _ BC=>?_;subst BC);rfl
   |_=>exact bD M
  |_=>exact bD h
end
set_option backward.match.sparseCases true
section
variable{tb:String->Option Builtin} {p:Program} {w:World} {eZ:Nat} {ann:Option Value}
def H9:∀{n m:Nat}{s s':Shared}{t t':Thread}{r:Shared×Thread},topGo tb p w eZ ann n s t=some (s',t')->topGo tb p w eZ ann m s' t'=some r->topGo tb p w eZ ann (n+m) s t=some r:=by
 intro z_
 induction z_ with
 |zero=>intro m s s' t t' r h k;injection h with h;injection h with H M;subst H M;rw [Nat.zero_add];exact k
 |succ n ak=>
  intro m s s' t t' r h k;rw [Nat.add_right_comm n 1 m];unfold topGo at h⊢;generalize ht:through t=z_;induction z_ with
  |true=>replace h:=ht▸h;exact aF h
  |false=>
   replace h:=ht▸h;generalize hk:stepOk eZ ann t=z_;induction z_ with
   |false=>replace h:=hk▸h;exact aF h
   |true=>
    replace h:=hk▸h;generalize hs:step (denote tb) p w s t=z_;induction z_ with
    |halt o bO=>replace h:=hs▸h;exact aF h
    |go bO iy=>replace h:=hs▸h;exact ak h k
variable{α:Type} {B:List Frame} {K':α->Sem Fin} {H':Value->Sem Fin} {gd:Bool->Bool} {lv:List Value->List Value} {res:α->Flow}
def Nt {x:Sem α}{code:Code}{pos:Pos}{g:Flow}(h:endAt B.length ⟨x.wrap (λa=>.pure (.done (res a))) deadEnd gd lv,code,pos,B⟩=some g):∃a,x=.pure a/\res a=g:=by
 delta endAt at h;rw [beq_self_eq_true] at h
 induction x with
 |pure a=>exact af a rfl (oj h)
 |_=>exact bD h
def OT {st:List Frame}{x:Sem Fin}{code:Code}{pos:Pos}{g:Flow}(hl:st.length≠B.length)(h:endAt B.length ⟨x,code,pos,st⟩=some g):False:=by delta endAt at h;rw [bN hl] at h;exact bD h
def FD (hB:splitAtGen B=none):∀(n:Nat)(s:Shared)(t t':Thread)(f:Flow)(s':Shared)(c':Code)(p':Pos),Rel2 (λa=>.pure (.done (res a))) K' deadEnd H' gd lv B t t'->
  segRun tb p w eZ ann B.length n s t=some (f,s',c',p')->∃a m,res a=f/\topGo tb p w eZ ann m s t'=some (s',⟨K' a,c',p',B⟩):=by
 intro bz
 induction bz with
 |zero=>intro aJ aU aW bf bB bH bS cb bU;exact bD bU
 |succ kA ak=>
  intro aJ aU aW bf bB bH bS cb bU;obtain ⟨lJ,kC,oi,uZ⟩:=aU;obtain ⟨u6,WW,Za,CR⟩:=aW;obtain ⟨e1,e2,cb⟩:=cb;dsimp only at e1 e2 cb;subst e1 e2;unfold segRun at bU;generalize he:endAt B.length ⟨lJ,kC,oi,uZ⟩=z_;induction z_ with
  |some g=>
   rw [he] at bU;injection bU with bU;injection bU with H M;injection M with M h3;injection h3 with h3 h4;subst H M h3 h4;rcases cb with⟨rfl,rfl,x,rfl,rfl⟩|⟨rfl,F⟩
   ·(refine aq (Nt he) λa UX UY=>?_;subst UX;subst UY);exact ax a 0 rfl rfl
   ·exact (OT (Nat.ne_of_gt F.longer.1) he).elim
  |none=>
   replace bU:=he▸bU;generalize hk:stepOk eZ ann ⟨lJ,kC,oi,uZ⟩=z_;induction z_ with
   |false=>replace bU:=hk▸bU;exact aF bU
   |true=>
    replace bU:=hk▸bU;generalize hs:step (denote tb) p w aJ ⟨lJ,kC,oi,uZ⟩=z_;induction z_ with
    |halt o bO=>replace bU:=hs▸bU;exact aF bU
    |go bO iy=>
     replace bU:=hs▸bU;have key:stepOk eZ ann ⟨u6,kC,oi,CR⟩=true/\through ⟨u6,kC,oi,CR⟩=false/\∃xT,step (denote tb) p w aJ ⟨u6,kC,oi,CR⟩=.go bO xT/\Rel2 (λa=>.pure (.done (res a))) K' deadEnd H' gd lv B iy xT:=by
      rcases cb with⟨rfl,rfl,x,rfl,rfl⟩|⟨rfl,F⟩
      ·have hp:∀a,x≠.pure a:=by
        rintro a rfl;delta endAt at he;rw [beq_self_eq_true] at he;exact bD he.symm
       have hr:∀e,x≠.raise e:=by rintro e rfl;exact nomatch hs
       exact ay (okOuter (K':=K') (H':=H') hp hr hk) λk1 k2=>bx k1 k2 (step_outer hB hp hs)
      ·exact ay (okInner hB F hk) λk1 k2=>bx k1 k2 (step_inner hB F hs)
     refine bc λBH=>?_;obtain ⟨k1,k2,xT,k3,R'⟩:=key;refine aG (ak bO iy xT bf bB bH bS R' bU) λa m ha hN=>BH (ax a (m+1) ha ?_);unfold topGo;exact k2.symm▸k1.symm▸k3.symm▸hN
end
section
variable{tb:String->Option Builtin} {p:Program} {w:World} {eZ:Nat} {ann:Option Value} {env:Env} {q:Pos}
def Mo {n:Nat}{s s':Shared}{l rest:List Stmt}{c c':Code}{pos p':Pos}(h:segRun tb p w eZ ann 1 n s (piecesOf l env c pos [topFrame q])=some (.next,s',c',p')):
  ∃m,topGo tb p w eZ ann m s (restOf (l++rest) env c pos [topFrame q])=some (s',restOf rest env c' p' [topFrame q]):=by
 refine bc λUZ=>?_;obtain ⟨a,m,ha,hN⟩:=FD (K':=λf=>match f with|.next=>(execs rest env).wrap doneF (leaveH env) id id|f=>doneF f) (B:=[topFrame q]) rfl n s (piecesOf l env c pos [topFrame q])
  ⟨(execs l env).wrap (λf=>match f with|.next=>(execs rest env).wrap doneF (leaveH env) id id|f=>doneF f) (leaveH env) id id,c,pos,[topFrame q]⟩ _ _ _ _ (bx rfl rfl (.inl ⟨rfl,rfl,_,rfl,rfl⟩)) h
 obtain rfl:a=.next:=ha;refine UZ (eg m ?_);delta restOf;rw [execs_app_wrap];exact hN
def Mp {n:Nat}{s s':Shared}{b:List Stmt}{c c':Code}{pos p':Pos}(h:segRun tb p w eZ ann 1 n s (blockOf b env c pos [topFrame q])=some (.next,s',c',p')):
  ∃m,topGo tb p w eZ ann m s ⟨denote tb (.body b env),c,pos,[topFrame q]⟩=some (s',restOf b env c' p' [topFrame q]):=by
 obtain ⟨a,m,ha,hN⟩:=FD (K':=λ_=>(execs b env).wrap doneF (leaveH env) id id) (B:=[topFrame q]) rfl n s (blockOf b env c pos [topFrame q])
  ⟨(blockStart b env).wrap (λ_=>(execs b env).wrap doneF (leaveH env) id id) .raise id id,c,pos,[topFrame q]⟩ _ _ _ _ (bx rfl rfl (.inl ⟨rfl,rfl,_,rfl,rfl⟩)) h
 rw [body_wrap];exact eg m hN
end
structure yM (p:Program)(w:World)(eZ:Nat)(ann:Option Value)(n:Nat)(s s₁:Shared)(t ju:Thread):Prop where
 run:runN (denote table) p w n s t=.running s₁ ju
 calm:∀k bO iy,k<n->runN (denote table) p w k s t=.running bO iy->iy.calm=true
 life:s₁.heap.life=s.heap.life
 os:s₁.os=s.os
 kept:∀b o,b<eZ->b≠mainNs->b≠cStatics->ann≠some (.ref b)->s.heap.get? b=some o->s₁.heap.get? b=some o
set_option tactic.hygienic true in
def R8 {p:Program}{w:World}{eZ:Nat}{ann:Option Value}:∀{n:Nat}{s s₁:Shared}{t ju:Thread},topGo table p w eZ ann n s t=some (s₁,ju)->yM p w eZ ann n s s₁ t ju:=by
 intro z_
 induction z_ with
 |zero=>intro s s₁ t ju h;injection h with h;injection h with H M;subst H M;exact ⟨rfl,λ_ _ _ h=>absurd h (Nat.not_lt_zero _),rfl,rfl,λ_ _ _ _ _ _ e=>e⟩
 |succ n ak=>
  intro s s₁ t ju h;unfold topGo at h;generalize ht:through t=z_;induction z_ with
  |true=>replace h:=ht▸h;exact aF h
  |false=>
   replace h:=ht▸h;generalize hk:stepOk eZ ann t=z_;induction z_ with
   |false=>replace h:=hk▸h;exact aF h
   |true=>
    replace h:=hk▸h;generalize hs:step (denote table) p w s t=z_;induction z_ with
    |halt o s'=>replace h:=hs▸h;exact aF h
    |go s' t'=>
     replace h:=hs▸h;refine bc λU0=>gK hk λhc hk=>?_;obtain ⟨a,b,c,d,e⟩:=ak h;refine U0 ?_;refine ⟨by simp only [runN,hs];exact a,λk bO iy hl hr=>?_,c.trans (step_life (denote table) p w s s' t t' hs),d.trans (step_os_same hs (by revert hk;cases t.cur<;>simp)),λb o H M h3 h4 h5=>e b o H M h3 h4 ?_⟩
     ·induction k with
      |zero=>(injection hr with q_ dq;subst q_;subst dq);exact hc
      |succ k=>simp only [runN,hs] at hr;exact b k bO iy (Nat.lt_of_succ_lt_succ hl) hr
     ·rw [PySem.step_heap (denote table) p w s s' t t' hs]
      revert hk
      cases t.cur<;>intro hk<;>try exact h5
      case update a _ f _=>
       have:b≠a:=by
        rintro rfl;simp only [Bool.or_eq_true,Nat.ble_eq,beq_iff_eq] at hk;rcases hk with((q|q)|q)|q
        ·exact absurd H (gW q)
        ·exact M q
        ·exact h3 q
        ·exact h4 q
       exact (Heap.get?_update_ne _ _ _ _ this).trans h5
      case alloc x _=>exact Heap.get?_push_of_some x h5
set_option backward.match.sparseCases false
section
variable{den:Code->Sem Fin} {p:Program} {w:World}
def Nu {s s':Shared}{t:Thread}{o:Outcome}(h:runN den p w 1 s t=.halted o s'):step den p w s t=.halt o s':=by
 unfold runN at h;generalize hs:step den p w s t=z_;induction z_ with
 |halt a b=>rw [hs] at h;injection h with x y;exact x.symm▸y.symm▸rfl
 |go a b=>rw [hs] at h;exact nomatch h
def w_:∀{n m:Nat}{s s₁:Shared}{t ju:Thread},runN den p w n s t=.running s₁ ju->runN den p w (n+m) s t=runN den p w m s₁ ju:=by
 intro z_
 induction z_ with
 |zero=>intro m s s₁ t ju h;(injection h with q_ dq;subst q_;subst dq);rw [Nat.zero_add]
 |succ n ak=>
  intro m s s₁ t ju h;refine (Nat.add_right_comm n 1 m).symm▸?_;dsimp only [runN] at h⊢;generalize hs:step den p w s t=z_;induction z_ with
  |halt o' bO=>replace h:=hs▸h;cases h
  |go bO iy=>replace h:=hs▸h;exact ak h
end
def R9 (c:Code)(q:Pos):(Ctx.of c [topFrame q]).In (callerA.under c):=by
 refine Ctx.Below.in (x6 rfl ?_ (λl hl=>by obtain rfl:=oj hl;rfl) (λg hg=>by obtain rfl:=oj hg;rfl) ?_)
 ·exact (by decide+kernel:frameCount [(.builtin "claim.caller" {},default)]<=1+claimMargin)
 ·exact (by decide+kernel:unitsOf [(.builtin "claim.caller" {},default)]<=4)
def Nv {p:Program}{w:World}{eZ:Nat}{ann:Option Value}{n:Nat}{s s₁:Shared}{t:Thread}{rest:List Stmt}{env:Env}{c:Code}{pos q:Pos}{Q:Shared->Prop}(R:yM p w eZ ann n s s₁ t (restOf rest env c pos [topFrame q]))(hz:s.asleep)
  (h:wpAny (model p w) (callerA.under c) (execs rest env) (λ_ s'=>Q s'/\s'.gens=#[]) aA s₁):
  ∃cy s' t',schedN (denote table) p w cy (.single s t)=.running (.single s' t')/\through t'=true/\Q s'/\s'.gens=#[]/\s'.heap.life=s.heap.life:=by
 have e:(execs rest env).wrap doneF (leaveH env) id id=((execs rest env).onRaise («leaving» env)).bind λf=>(Sem.pure (Fin.done f)):=by rw [Sem.bind_eq_wrap,Sem.onRaise_eq_wrap,Sem.wrap_wrap];rfl
 have H:wpAny (model p w) (callerA.under c) ((execs rest env).wrap doneF (leaveH env) id id) (λfin s'=>∃f,fin=.done f/\(λ(r:Result) s'=>(∃f,r=.ok f)/\Q s'/\s'.gens=#[]) (.ok f) s') (λe s'=>(λ(r:Result) s'=>(∃f,r=.ok f)/\Q s'/\s'.gens=#[]) (.error e) s') s₁:=by exact e.symm▸(wpAny_bind (wpAny_onRaise (wpAny_mono h (λf s' q=>wpAny_pure (bX f rfl ⟨f,rfl⟩ q)) λ_ _ q=>q.elim)))
 refine bc λiF=>?_;(refine Wr (wp_runN (R:=λr s'=>(∃f,r=.ok f)/\Q s'/\s'.gens=#[]) (wp_of_wpAny_done (R9 c q) H pos)) λm r s' c' p' hm dK hQ hg=>aM dK λf dn=>?_;subst dn);have M:=runN_snoc hm;have h3:=runN_snoc M;have h4:(model p w).step s' ⟨topAfter (.ok f),.builtin "claim.caller" {},q,[]⟩=.halt (.done (.ret .none)) s':=by
  have:topAfter (.ok f)=leafOf (.ok (.ret .none)):=by cases f<;>rfl
  rw [this,step_leaf_nil];delta finish;rw [hg,if_neg (by simp [leftWithCleanup])];rfl
 replace h3:=h4▸h3;refine bW (runNI_real _ _ _ h3 rfl) λjT hr hf hc=>?_;obtain rfl:jT=s':=Shared.eq_of_forget_eq hf hg;refine aw (runNI_running_real M) λbO iy hk _ ht=>?_;obtain rfl:jT=bO:=step_halt_same _ _ _ _ _ _ _ (Nu ((w_ hk).symm.trans hr));refine iF ?_;have Yh:through iy=true:=by
  have e1:iy.cur=topAfter (.ok f):=congrArg Thread.cur ht;have e4:forgetAll iy.stack=[]:=congrArg Thread.stack ht;delta through;refine e1.symm▸?_;generalize e5:iy.stack=z_;induction z_ with
  |nil=>cases f<;>rfl
  |cons x l=>rw [e5] at e4;exact og e4
 have U1:=λj cR Jc hj=>by
  refine (Nat.lt_or_ge j n).elim (λhl=>?_) (λhl=>?_)
  ·exact R.calm j cR Jc hl hj
  ·(refine aM (Nat.exists_eq_add_of_le hl) λi uU=>?_;subst uU);rw [w_ R.run] at hj;exact hc i cR Jc hj
 have Jd:runN (denote table) p w (n+(m+1+1)) s t=.halted (.done (.ret .none)) jT:=(w_ R.run).trans hr;have ng:∀j cR,runN (denote table) p w j s t≠.halted (.unsupported "lifetime:generator-with-cleanup-left-suspended") cR:=λj cR hj=>by
  have a:=runN_mono (denote table) p w (n+(m+1+1)) j s t _ _ Jd;rw [Nat.add_comm,(runN_mono (denote table) p w j (n+(m+1+1)) s t _ _ hj)] at a;injection a with a1 _
  cases a1
 refine mK (n+(m+1)) jT iy ?_ Yh hQ hg (runN_life _ _ _ Jd);rw [schedN_eq_runN (denote table) p w s t hz ⟨U1,ng⟩,w_ R.run];exact congrArg Run.lift hk
noncomputable def gD (d:Addr)(h:Heap):Gh:=⟨λb=>if b=d\/b=12\/b=mainGlobals then none else h.get? b,[]⟩
set_option tactic.hygienic true in
def Aq {d b:Addr}{h:Heap}{o:Obj}(e:(gD d h).I b=some o):b≠d/\b≠12/\b≠mainGlobals/\h.get? b=some o:=by
 delta gD at e;dsimp only at e;split at e
 ·exact aF e
 ·rename_i q;rw [not_or,not_or] at q;exact eQ q.1 q.2.1 q.2.2 e
def H_ {d b:Addr}{h:Heap}{o:Obj}(H:b≠d)(M:b≠12)(h3:b≠mainGlobals)(e:h.get? b=some o):(gD d h).I b=some o:=by delta gD;dsimp only;rw [if_neg (by rw [not_or,not_or];exact (bx H M h3))];exact e
def tR {d:Addr}{h h':Heap}(k:∀b o,b≠d->b≠12->b≠mainGlobals->h.get? b=some o->h'.get? b=some o):(gD d h).Le (gD d h'):=⟨λb o e=>by refine jm (Aq e) λH M h3 e=>?_;exact H_ H M h3 (k b o H M h3 e),List.prefix_refl _⟩
def Ia {d:Addr}{h h':Heap}(k:∀b o,h.get? b=some o->h'.get? b=some o):(gD d h).Le (gD d h'):=tR λb o _ _ _=>k b o
def U2 {d:Addr}{h:Heap}:(gD d h).In h:=λb o e=>(Aq e).2.2.2
noncomputable def AS:Expr->Option V
 |.Constant c _ _=>mj c
 |.Tuple S _ _=>(a_ (λe=>match e with
   |.Constant c _ _=>mj c
   |_=>none) S).bind λT=>guard (aY T.length) (some (.tup T))
 |_=>none
noncomputable def rD:List (Option Expr)->List Expr->List (V×V)->Option (List (V×V))
 |[],[],acc=>some acc
 |k::G,v::T,acc=>k.bind λk=>(AS k).bind λkv=>(AS v).bind λvv=>(gN acc kv vv).bind λacc=>rD G T acc
 |_,_,_=>none
section
variable{w:World} {A:Around} {s:Shared} {env:Env} {d:Addr}
def Ez {c:Const}{kd:Nat}{pos:Pos}{v:V}(h:mj c=some v){Q:Value->Shared->Prop}(hq:∀u t,s.toks<=t->(∀g,VR w g v u)->Q u {s with toks:=t}):wpAny (Md w) A (eval (.Constant c kd pos) env) Q aA s:=by
 induction c with
 |none=>obtain rfl:=oj h;exact wpAny_Constant_none (hq _ s.toks (nR _) λ_=>.none)
 |bool b=>obtain rfl:=oj h;exact λ_ _ _=>hq _ s.toks (nR _) λ_=>.bool b
 |int i=>obtain rfl:=oj h;exact λ_ _ _=>hq _ (s.toks+1) (lS _) λ_=>.int i _
 |str x=>obtain rfl:=oj h;exact wpAny_Constant_str (hq _ (s.toks+1) (lS _) λ_=>.str x _)
 |_=>exact bD h
def Lp:∀{S:List Expr}{T:List V}{pos:Pos}{s:Shared}{Q:List Value->Shared->Prop},a_ (λe=>match e with
   |.Constant c _ _=>mj c
   |_=>none) S=some T->(∀us t,s.toks<=t->(∀g,aO w g T us)->Q us {s with toks:=t})->wpAny (Md w) A (spliced (backTo pos (starEach S env))) Q aA s:=by
 intro z_
 induction z_ with
 |nil=>intro T pos s Q h hq;obtain rfl:=oj h;exact wpAny_items_nil (hq [] s.toks (nR _) λ_=>.nil)
 |cons e S ak=>
  intro T pos s Q h hq;(refine aw (jB h) λy ys cx H M=>?_;subst cx)
  cases e with
  |Constant c kd p=>exact wpAny_items_cons (Ez H λu t ht hu=>ak M λus t' Dm yN=>hq _ t' (nT ht Dm) λg=>.cons (hu g) (yN g))
  |_=>exact bD H
def Ed {e:Expr}{v:V}(h:AS e=some v)(hd:d<s.heap.objs.size)(d9:12<s.heap.objs.size){Q:Value->Shared->Prop}(hq:∀u s',Ext s s'->VR w (gD d s'.heap) v u->Q u s'):wpAny (Md w) A (eval e env) Q aA s:=by
 cases e with
 |Constant c kd p=>exact Ez h λu t ht hu=>hq _ _ (.tok t ht) (hu _)
 |Tuple S i p=>
  refine bc λcG=>aH h λT H M=>ay (bK M) λh3 h4=>?_;obtain rfl:=oj h4;refine cG (wpAny_Tuple (Lp H λus t ht yN=>⟨?_,hq _ _ (.trans (.tok t ht) (.push _)) ?_⟩))
  ·have:=(yN ⟨λ_=>none,[]⟩).length;have h5:=fit_le h3;refine sizeLine_eq.symm▸?_;exact this▸nT h5 (nl rfl)
  ·exact .tup (H_ (Nat.ne_of_gt hd) (Nat.ne_of_gt d9) (Nat.ne_of_gt (Nat.lt_trans (nl rfl) d9)) (eR rfl)) rfl rfl (by refine List.toList_toArray.symm▸?_;exact yN _)
 |_=>exact bD h
def Mq:∀{G:List (Option Expr)}{T:List Expr}{acc S:List (V×V)}{pos:Pos}{s:Shared}{Q:List (Value×Value)->Shared->Prop},rD G T acc=some S->d<s.heap.objs.size->12<s.heap.objs.size->
  (∀U s',Ext s s'->q0 w (gD d s'.heap) S acc U->Q U s')->wpAny (Md w) A (evalPairs (pairTrees G T env pos)) Q aA s:=by
 intro bz
 induction bz with
 |nil=>
  intro aJ aU aW bf bB bH bS cb bU kA
  cases aJ with
  |nil=>obtain rfl:=oj bS;exact pairTrees_nil_walk (kA _ _ .refl .nil)
  |cons oi uZ=>exact aF bS
 |cons lJ kC ak=>
  intro aJ aU aW bf bB bH bS cb bU kA
  cases aJ with
  |nil=>exact aF bS
  |cons u6 WW=>refine bc λWX=>aH bS λke hk ha=>aH ha λkv H hb=>aH hb λvv M hc=>aH hc λkz h3 h4=>?_;subst hk;exact WX (pairTrees_cons_walk (Ed H cb bU λu s₁ jL CS=>Ed M (lL cb jL.size) (lL bU jL.size) λI0 bO yk WY=>ak h4 (lL cb (jL.trans yk).size) (lL bU (jL.trans yk).size) λU cR CT WZ=>kA _ _ ((jL.trans yk).trans CT) (.cons (CS.mono (Ia (yk.trans CT).kept)) (WY.mono (Ia CT.kept)) h3 WZ)))
def K4 (hu:A.units+250<cLine){G:List (Option Expr)}{T:List Expr}{S:List (V×V)}{pos:Pos}{W:Wd}(hk:G.all (·.isSome)=true)(hl:G.length=T.length)(h0:G≠[])(qj:G.length<=15)
  (h:rD G T []=some S) (d9:12<s.heap.objs.size) {Q:Value->Shared->Prop}
  (hq:∀s',Ext s s'->DR W.w (gD s.heap.objs.size s'.heap) s'.heap s.heap.objs.size S->Q (.ref s.heap.objs.size) s'):wpAny (Md W.w) A (eval (.Dict G T pos) env) Q aA s:=by
 refine wpAny_Dict_any hk hl h0 qj ?_;have hsz:s.heap.objs.size<(s.heap.push {cls:=.type "dict",data:=.dict #[]}).objs.size:=by rw [Heap.size_push];exact Nat.lt_succ_self _
 refine Mq h hsz (Nat.lt_trans d9 hsz) λU s₁ jL CS=>?_;have W0:DR W.w (gD s.heap.objs.size s₁.heap) s₁.heap s.heap.objs.size []:=by refine gf _ (#[]) 0 (jL.kept _ _ (eR rfl)) (eQ (bx rfl rfl rfl) rfl (bX ([]) rfl List.nodup_nil (λ_ h=>cj h)) ?_) .nil;rw [beq_eq_false_iff_ne];exact Nat.ne_of_gt (Nat.lt_trans (nl rfl) d9)
 refine DZ hu (if_pos (.inl rfl)) CS U2 W0 λh' t ht d' hs=>?_;have ext:Ext s {s₁ with heap:=h',toks:=t}:=by refine aG jL.rest λhh tk l e=>?_;refine ⟨(ax h' t (nT l (by rw [e] at ht;exact ht)) (by rw [e])),nT (Nat.le_of_lt hsz) (nT jL.size (Nat.le_of_eq hs.1.symm)),λb o q=>?_⟩;exact (hs.2 b (Nat.ne_of_lt (Heap.lt_size q))).trans (jL.kept b o (Heap.get?_push_of_some _ q))
 exact hq _ ext (d'.mono (tR λb o H _ _ e=>(hs.2 b H).trans e) λo e=>e)
end
noncomputable abbrev d5:Env:=mainEnv pw 13 14
structure jY (aK s:Shared)(mg:Str->Option Value)(U:Array Value):Prop where
 main:s.heap.Main mg 13 12 U
 ext:∃h t,aK.toks<=t/\s={aK with heap:=h,toks:=t}
 size:aK.heap.objs.size<=s.heap.objs.size
 kept:∀b o,b≠12->b≠mainGlobals->aK.heap.get? b=some o->s.heap.get? b=some o
def jY.trans {aK s s':Shared}{mg cT:Str->Option Value}{U bJ:Array Value}(x:jY aK s mg U)(y:jY s s' cT bJ):jY aK s' cT bJ:=⟨y.main,by(refine aG x.ext λ_ _ l cG=>?_;subst cG);(refine aG y.ext λ_ _ l' fj=>?_;subst fj);exact (ax _ _ (nT l l') rfl),nT x.size y.size,λb o H M q=>y.kept b o H M (x.kept b o H M q)⟩
structure fP where
 name:Str
 params:Arguments
 body:List Stmt
 scope:Scope
 pos:Pos
noncomputable def fP.stmt (d:fP):Stmt:=.FunctionDef d.name d.params d.body [] none [] d.scope none d.name d.pos
noncomputable def U3:Stmt->Option fP
 |.FunctionDef n a b [] none [] sc none _ p=>some ⟨n,a,b,sc,p⟩
 |_=>none
noncomputable def Gq (a:Arguments):Bool:=a.kwonlyargs.isEmpty&&a.kw_defaults.isEmpty&&a.defaults.isEmpty&&a.posonlyargs.isEmpty&&a.vararg.isNone&&a.kwarg.isNone
structure uw (d:fP):Prop where
 kw:d.params.kwonlyargs=[]
 J2:d.params.kw_defaults=[]
 lW:d.params.defaults=[]
 ann:annTrees d.params none d5=[]
 free:(d.scope.names.all λx=>x.2 !=.free)=true
 loc:pw.main.scope.names.lookup d.name=some .local
 q:qualnameIn {scope:=pw.main.scope,locals:=mainGlobals,globals:=mainGlobals,cells:=[]} d.name d.name=d.name
 nb:d.name≠"__builtins__"
structure jF (h:Heap)(a:Addr)(d:fP):Prop where
 at':∃o fd,h.get? a=some o/\o.data=.func fd/\fd.body=.stmts d.body/\fd.scope=d.scope/\fd.globals=mainGlobals/\fd.builtins=builtinsNs/\fd.closure=[]/\fd.params=d.params/\fd.defaults=.none/\(fd.name=d.name/\fd.qualname=d.name/\fd.kwdefaults=.none)/\∃c,fd.code=.ref c/\c≠12/\c≠mainGlobals/\h.CodeRec (.ref c) fd.qualname
 hi:12<a
def jF.keeps {h h':Heap}{a:Addr}{d:fP}(x:jF h a d)(k:∀b o,b≠12->b≠mainGlobals->h.get? b=some o->h'.get? b=some o):jF h' a d:=by refine bc λcx=>?_;obtain ⟨⟨o,fd,e,r1,r2,r3,r4,r5,r6,r7,r8,r0,c,r9,n1,n2,c2,o2,T,t,z1,z2,z3⟩,hi⟩:=x;(injection z1 with q_;subst q_);refine cx (⟨⟨o,fd,k _ _ (Nat.ne_of_gt hi) (Nat.ne_of_gt (Nat.lt_trans (nl rfl) hi)) e,r1,r2,r3,r4,r5,r6,r7,r8,r0,c,r9,n1,n2,c,o2,T,t,rfl,k _ _ n1 n2 z2,z3⟩,hi⟩)
set_option tactic.hygienic true in
def Mr {pos:Pos}{a b:Nat}{c:Value}(l:List Value)(h:TriplesOk l)(hn:codeAmong pos l=none)(hp:(a==pos.line&&b==pos.col)=false):codeAmong pos (l++[rawInt a,rawInt b,c])=none:=by
 fun_induction TriplesOk l with
 |case1=>
  dsimp only [List.nil_append,rawInt,codeAmong];rw [if_neg];intro q;rw [Bool.and_eq_true,beq_iff_eq,beq_iff_eq] at q;rw [Bool.and_eq_false_iff,beq_eq_false_iff_ne,beq_eq_false_iff_ne] at hp;rcases hp with hp|hp
  ·exact hp (Int.ofNat.inj q.1)
  ·exact hp (Int.ofNat.inj q.2)
 |case2 a t b u x rest ih=>
  dsimp only [List.cons_append,codeAmong] at hn⊢;split at hn
  ·exact lx hn
  ·rename_i hc;rw [if_neg hc];exact ih h hn
 |case3 l H M=>exact h.elim
section
variable{w:World} {A:Around} {s:Shared}
def OU {d:fP}(D:uw d){mg:Str->Option Value}{U:Array Value}(m:s.heap.Main mg 13 12 U)(d9:12<s.heap.objs.size)(Yi:codeAmong d.pos U.toList=none){Q:Flow->Shared->Prop}
  (hq:∀a c' s',jY s s' (λx=>if x=d.name then some (.ref a) else mg x) (U++#[rawInt d.pos.line,rawInt d.pos.col,.ref c'])->jF s'.heap a d->Q .next s'):
  wpAny (Md w) A (exec d.stmt d5) Q aA s:=by
 refine nu (wpAny_defStmt0 (Q:=λf s'=>f=.next/\∃a c',(∃h t,s'={s with heap:=h,toks:=t})/\s'.heap.Main (λx=>if x=d.name then some (.ref a) else mg x) 13 12 (U++#[rawInt d.pos.line,rawInt d.pos.col,.ref c'])/\jF s'.heap a d/\∀b o,b≠12->b≠mainGlobals->s.heap.get? b=some o->s'.heap.get? b=some o)
  D.kw D.J2 (by refine D.lW.symm▸?_;exact λ_ h=>cj h) D.ann (λx Y=>by have:=aE D.free x Y;simpa using this) D.loc D.q m (λa c' doc dV T h' tk ha hm hf hv hd hc keep=>⟨rfl,a,c',(dB h' tk rfl),hm,⟨⟨_,_,hf,rfl,rfl,rfl,rfl,rfl,rfl,rfl,?_,(bx rfl rfl rfl),c',rfl,?_,?_,hc.2⟩,lL d9 ha⟩,keep⟩) D.nb rfl Yi) λf s' ht hz q=>?_
 ·have hv:T=[]:=by
   replace hv:=D.lW▸hv
   induction T with
   |nil=>rfl
   |cons _ _=>exact hv.elim
  subst hv;rcases hd with q|q
  ·exact q.2
  ·exact absurd rfl q.1
 ·exact Nat.ne_of_gt (lL d9 hc.1)
 ·exact Nat.ne_of_gt (lL (Nat.lt_trans (nl rfl) d9) hc.1)
 ·obtain ⟨rfl,a,c',⟨h,t,rfl⟩,hm,hf,keep⟩:=q;exact hq a c' _ ⟨hm,(ax h t ht rfl),hz,keep⟩ hf
def Nw:∀{l:List fP}{s:Shared}{mg:Str->Option Value}{U:Array Value}{Q:Flow->Shared->Prop},(∀d∈l,uw d)->(l.map (·.name)).Nodup->l.Pairwise (λa b=>(a.pos.line==b.pos.line&&a.pos.col==b.pos.col)=false)->
  s.heap.Main mg 13 12 U->12<s.heap.objs.size->(∀d∈l,codeAmong d.pos U.toList=none)->
  (∀s' cT bJ,jY s s' cT bJ->(∀d∈l,∃a,cT d.name=some (.ref a)/\jF s'.heap a d)->(∀x,x∉l.map (·.name)->cT x=mg x)->Q .next s')->wpAny (Md w) A (execs (l.map fP.stmt) d5) Q aA s:=by
 intro z_
 induction z_ with
 |nil=>intro s mg U Q H M h3 m hs h4 hq;exact wpAny_execs_nil (hq s mg U ⟨m,(ax _ _ (nR _) rfl),nR _,λ_ _ _ _ e=>e⟩ (λ_ h=>cj h) λ_ _=>rfl)
 |cons d l ak=>
  intro s mg U Q H M h3 m hs h4 hq;obtain ⟨n1,n2⟩:=nE M;refine ay (lQ h3) λp1 p2=>wpAny_execs_cons (OU (H d mS) m hs (h4 d mS) λa c' s' I f=>ak (λe he=>H e (aT _ he)) n2 p2 I.main (lL hs I.size) (λe he=>?_) λjT cT bJ I' f' o'=>hq jT cT bJ (I.trans I') (λe he=>?_) λx Y=>?_)
  ·refine Array.toList_append.symm▸?_;obtain ⟨_,_,_,_,_,_,_,_,_,_,_,_,_,_,_,_,_,_,_,tr,_⟩:=m.code;exact Mr _ tr (h4 e (aT _ he)) (p1 e he)
  ·rcases mE he with rfl|he
   ·exact af a ((o' _ n1).trans (if_pos rfl)) (f.keeps I'.kept)
   ·exact f' e he
  ·rw [List.map_cons,List.mem_cons,not_or] at Y;exact (o' x Y.2).trans (if_neg Y.1)
def Nx {W:Wd}(hu:A.units+250<cLine){x:Str}{q pos dp:Pos}{G:List (Option Expr)}{T:List Expr}{S:List (V×V)}(hk:G.all (·.isSome)=true)(hl:G.length=T.length)(h0:G≠[])(qj:G.length<=15)
  (h:rD G T []=some S) (W2:pw.main.scope.names.lookup x=some .local) (Yj:x≠"__builtins__") {mg:Str->Option Value} {U:Array Value} (m:s.heap.Main mg 13 12 U) (d9:12<s.heap.objs.size) {Q:Flow->Shared->Prop}
  (hq:∀a s',jY s s' (λy=>if y=x then some (.ref a) else mg y) U->12<a->DR W.w (gD a s'.heap) s'.heap a S->Q .next s'):
  wpAny (Md W.w) A (exec (.Assign [.Name x q] (.Dict G T dp) pos) d5) Q aA s:=by
 refine wpAny_Assign_Name (K4 hu hk hl h0 qj h d9 λs₁ e d=>wpAny_storeName_local W2 (m.g.keeps e.kept) (λh' kK jV=>bc λmW=>?_));(refine aG e.rest λhh tk l uT=>?_;subst uT);refine xY m.bmod λbm o Dn W3 Je W4 Yk mB=>mW ?_;have kept:∀b o,b≠mainGlobals->s.heap.get? b=some o->h'.get? b=some o:=λb o hb q=>(jV.2 b hb).trans (e.kept b o q);exact hq s.heap.objs.size _ ⟨⟨kK,(m.code.keeps e.kept).sameBut jV (Nat.ne_of_gt m.low.1) (Nat.ne_of_gt m.low.2),m.low,(IL bm o ((if_neg (Ne.symm Yj)).trans Dn) W3 Je W4 (kept _ _ Je Yk) mB)⟩,(ax h' _ (nT l (lS _)) rfl),nT e.size (Nat.le_of_eq jV.1.symm),λb o _ hb q=>kept b o hb q⟩ d9 (d.mono (tR λb o _ _ h3 z=>(jV.2 b h3).trans z) λo z=>(jV.2 _ (Nat.ne_of_gt (Nat.lt_trans (nl rfl) d9))).trans z)
end
noncomputable def fq:List fP:=(j6.drop 188).filterMap U3
def Ny:j6.drop 188=fq.map fP.stmt:=by kernel_rfl
noncomputable def B2:List Arg->Bool
 |[]=>true
 |a::r=>a.annotation.isNone&&B2 r
def Nz {env:Env}:∀{l:List Arg},B2 l=true->annotationsOf l env=[]:=λ{l} h=>by
 induction l with
 |nil=>rfl
 |cons a r ih=>
  obtain ⟨n,an,p⟩:=a
  induction an with
  |none=>exact ih h
  |some a=>exact aS h
noncomputable def AU (d:fP):Bool:=Gq d.params&&B2 d.params.args&&(d.scope.names.all λx=>x.2 !=.free)&&pw.main.scope.names.lookup d.name==some .local&&
 qualnameIn {scope:=pw.main.scope,locals:=mainGlobals,globals:=mainGlobals,cells:=[]} d.name d.name==d.name&&d.name !="__builtins__"
def OV {d:fP}(h:AU d=true):uw d:=by delta AU Gq at h;simp only [Bool.and_eq_true,List.isEmpty_iff,Option.isNone_iff_eq_none,beq_iff_eq,bne_iff_ne] at h;obtain ⟨⟨⟨⟨⟨⟨⟨⟨⟨⟨a1,a2⟩,a3⟩,a4⟩,a5⟩,a6⟩,b⟩,c⟩,e⟩,f⟩,g⟩:=h;refine ⟨a1,a2,a3,?_,c,e,f,g⟩;obtain ⟨nm,⟨po,ar,va,ko,kd,Zu,df⟩,bo,sc,U⟩:=d;dsimp only at a1 a2 a3 a4 a5 a6 b;subst a1 a4 a5 a6;delta annTrees;simp only [List.append_nil,Option.toList_none];rw [Nz b];rfl
def QN:(fq.all AU)=true:=by decide+kernel
noncomputable def zW:List fP->Bool
 |[]=>true
 |a::r=>(r.all λb=>!(a.pos.line==b.pos.line&&a.pos.col==b.pos.col))&&zW r
def Lq:∀{l:List fP},zW l=true->l.Pairwise λa b=>(a.pos.line==b.pos.line&&a.pos.col==b.pos.col)=false:=by
 intro z_
 induction z_ with
 |nil=>intro _;exact .nil
 |cons a r ak=>
  intro h;obtain ⟨H,M⟩:=iD h;refine List.pairwise_cons.mpr ⟨λb hb=>?_,ak M⟩;have:=aE H b hb
  rwa [Bool.not_eq_true'] at this
def Ms:zW fq=true:=by decide+kernel
structure ji where
 x:Str
 q:Pos
 G:List (Option Expr)
 T:List Expr
 dp:Pos
 pos:Pos
 S:List (V×V)
noncomputable def ji.stmt (d:ji):Stmt:=.Assign [.Name d.x d.q] (.Dict d.G d.T d.dp) d.pos
noncomputable def R_ (x:Str):List (V×V):=match ai x with
 |some (.const (.dict S))=>S
 |_=>[]
noncomputable def Sd:Stmt->Option ji
 |.Assign [.Name x q] (.Dict G T dp) pos=>some ⟨x,q,G,T,dp,pos,R_ x⟩
 |_=>none
noncomputable def iL:List ji:=((j6.drop 186).take 2).filterMap Sd
def Mt:(j6.drop 186).take 2=iL.map ji.stmt:=by kernel_rfl
def OW:j6.drop 186=iL.map ji.stmt++fq.map fP.stmt:=by rw [<-Mt,<-Ny,<-List.drop_drop (i:=2) (j:=186),List.take_append_drop]
structure AV (d:ji):Prop where
 k:d.G.all (·.isSome)=true
 l:d.G.length=d.T.length
 ne:d.G≠[]
 m:d.G.length<=15
 f:rD d.G d.T []=some d.S
 loc:pw.main.scope.names.lookup d.x=some .local
 nb:d.x≠"__builtins__"
def QO:iL.map (λd=>rD d.G d.T [])=iL.map λd=>some d.S:=by kernel_rfl
noncomputable def Gr (d:ji):Bool:=d.G.all (·.isSome)&&d.G.length==d.T.length&&!d.G.isEmpty&&decide (d.G.length<=15)&&pw.main.scope.names.lookup d.x==some .local&&d.x !="__builtins__"
def NA:iL.all Gr=true:=by decide+kernel
def QP {d:ji}(h:d∈iL):AV d:=by have a:=aE NA d h;unfold Gr at a;simp only [Bool.and_eq_true,beq_iff_eq,Bool.not_eq_true',List.isEmpty_eq_false_iff,decide_eq_true_eq,bne_iff_ne] at a;refine ay a λW5 a6=>ay W5 λW6 a5=>ay W6 λpW a4=>ay pW λve a3=>ay ve λa1 a2=>⟨a1,a2,a3,a4,aM (List.getElem?_of_mem h) λi hi=>?_,a5,a6⟩;have:=congrArg (·[i]?) QO;simpa [hi] using this
def Mu {W:Wd}{A:Around}(hu:A.units+250<cLine){rest:List Stmt}:∀{l:List ji}{s:Shared}{mg:Str->Option Value}{U:Array Value}{Q:Flow->Shared->Prop},(∀d∈l,AV d)->(l.map (·.x)).Nodup->
  s.heap.Main mg 13 12 U->12<s.heap.objs.size->
  (∀s' cT,jY s s' cT U->(∀d∈l,∃a,cT d.x=some (.ref a)/\12<a/\DR W.w (gD a s'.heap) s'.heap a d.S)->(∀x,x∉l.map (·.x)->cT x=mg x)->wpAny (Md W.w) A (execs rest d5) Q aA s')->wpAny (Md W.w) A (execs (l.map ji.stmt++rest) d5) Q aA s:=by
 intro z_
 induction z_ with
 |nil=>intro s mg U Q H M m hs hq;exact hq s mg ⟨m,(ax _ _ (nR _) rfl),nR _,λ_ _ _ _ e=>e⟩ (λ_ h=>cj h) λ_ _=>rfl
 |cons d l ak=>
  intro s mg U Q H M m hs hq;obtain ⟨n1,n2⟩:=nE M;have D:=H d mS;refine wpAny_execs_cons (Nx hu D.k D.l D.ne D.m D.f D.loc D.nb m hs λa s' I ha hd=>ak (λe he=>H e (aT _ he)) n2 I.main (lL hs I.size) λjT cT I' f' o'=>hq jT cT (I.trans I') (λe he=>?_) λx Y=>?_)
  ·rcases mE he with rfl|he
   ·exact bX a ((o' _ n1).trans (if_pos rfl)) ha (hd.mono (tR λb o _ M h3 z=>I'.kept b o M h3 z) λo z=>I'.kept a o (Nat.ne_of_gt ha) (Nat.ne_of_gt (Nat.lt_trans (nl rfl) ha)) z)
   ·exact f' e he
  ·rw [List.map_cons,List.mem_cons,not_or] at Y;exact (o' x Y.2).trans (if_neg Y.1)
def Lr:qW (iL.map (·.x)++fq.map (·.name))=true:=by decide+kernel
def U4 {W:Wd}{A:Around}(hu:A.units+250<cLine){lD:List ji}{lF:List fP}(H:∀d∈lD,AV d)(M:∀d∈lF,uw d)(nd:(lD.map (·.x)++lF.map (·.name)).Nodup)
  (ap:lF.Pairwise λa b=>(a.pos.line==b.pos.line&&a.pos.col==b.pos.col)=false) {s:Shared} {mg:Str->Option Value} {U:Array Value} (m:s.heap.Main mg 13 12 U) (d9:12<s.heap.objs.size) (pX:∀d∈lF,codeAmong d.pos U.toList=none) {Q:Flow->Shared->Prop}
  (hq:∀s' cT bJ,jY s s' cT bJ->(∀d∈lF,∃a,cT d.name=some (.ref a)/\jF s'.heap a d)->(∀d∈lD,∃a,cT d.x=some (.ref a)/\12<a/\DR W.w (gD a s'.heap) s'.heap a d.S)->
   (∀x,x∉lD.map (·.x)++lF.map (·.name)->cT x=mg x)->Q .next s'):wpAny (Md W.w) A (execs (lD.map ji.stmt++lF.map fP.stmt) d5) Q aA s:=by
 refine ef (List.nodup_append.mp nd) λYl Ym Yn=>Mu hu H Yl m d9 λs₁ Y5 CU W7 W8=>Nw M Ym ap CU.main (lL d9 CU.size) pX λbO U5 U6 CV W9 Jf=>hq bO U5 U6 (CU.trans CV) W9 (λd hd=>?_) λx Y=>?_
 ·refine bW (W7 d hd) λa q1 q2 q3=>bX a ((Jf _ λz=>Yn _ (mM hd) _ z rfl).trans q1) q2 (q3.mono (tR λb o _ M h3 z=>CV.kept b o M h3 z) λo z=>CV.kept a o (Nat.ne_of_gt q2) (Nat.ne_of_gt (Nat.lt_trans (nl rfl) q2)) z)
 ·rw [List.mem_append,not_or] at Y;exact (Jf x Y.2).trans (W8 x Y.1)
def s9:∀d∈fq,uw d:=λd hd=>OV (aE QN d hd)
noncomputable def gt (s:SharedT)(a:Addr):Option Obj:=match Nat.blt a s.n with
 |true=>(s.tree.get a).bind alive
 |false=>none
def U7 {s:SharedT}{a:Addr}{o:Obj}(h:gt s a=some o):s.abs.heap.get? a=some o:=by
 delta gt at h;generalize e:Nat.blt a s.n=z_;induction z_ with
 |false=>replace h:=e▸h;exact aF h
 |true=>replace h:=e▸h;exact aH h λo' H M=>(abs_get (Nat.le_of_ble_eq_true e) H).trans M
noncomputable def fD (g:Addr->Option Obj)(a:Addr):Option Obj:=match a==12||a==3 with
 |true=>none
 |false=>g a
def QQ {g:Addr->Option Obj}{a:Addr}{o:Obj}(h:fD g a=some o):g a=some o/\a≠12/\a≠3:=by
 delta fD at h
 cases e:a==12||a==3 with
 |true=>replace h:=e▸h;exact aF h
 |false=>replace h:=e▸h;rw [Bool.or_eq_false_iff,beq_eq_false_iff_ne,beq_eq_false_iff_ne] at e;exact bx h e.1 e.2
noncomputable def QR:Stmt->Option Str
 |.FunctionDef n _ _ _ _ _ _ _ _ _=>some n
 |.ClassDef n _ _ _ _ _ _ _ _ _ _=>some n
 |.Assign [.Name n _] _ _=>if startupNames.contains n then none else some n
 |_=>none
noncomputable def xx:List Str->List (Str×GV)->List (Str×Option GV)
 |[],_=>[]
 |n::ns,[]=>(n,none)::xx ns []
 |n::ns,(x,g)::gs=>if n==x then(n,some g)::xx ns gs else(n,none)::xx ns ((x,g)::gs)
noncomputable def order:List (Str×Option GV):=startupNames.map (λn=>(n,none))++xx ((j6.take 186).filterMap QR) j_
noncomputable def iR (e:DictEntry):Option Str:=vd e.key
def Ls:qW (order.map (·.1))=true:=by decide+kernel
noncomputable def ey:List Str:=iL.map (·.x)++fq.map (·.name)
noncomputable def early (p:Str×GV):Bool:=!ey.contains p.1&&match p.2 with
 |.blt _=>false
 |_=>true
def Lu:order.filterMap (λq=>q.2.map λg=>(q.1,g))=j_.filter early:=by kernel_rfl
def wD {p:Str×GV}(h:p∈j_)(he:early p=true):(p.1,some p.2)∈order:=by
 have:p∈j_.filter early:=List.mem_filter.mpr ⟨h,he⟩;replace this:=Lu.symm▸this;obtain ⟨⟨n,q⟩,hq,e⟩:=List.mem_filterMap.mp this
 induction q with
 |none=>exact aF e
 |some g=>(injection e with q_;subst q_);exact hq
def Lw:(order.all λq=>startupNames.contains q.1||pw.boundNames.contains q.1)=true:=by decide+kernel
def Mv:(order.all λq=>!ey.contains q.1)=true:=by decide+kernel
def Mw:(ey.all λn=>pw.boundNames.contains n)=true:=by decide+kernel
def OX:(f5.all λc=>c.2.all λp=>k9.lookup p.2==some (some c.1,p.1))=true:=by decide+kernel
section
variable(g:Addr->Option Obj) (aP cH:List DictEntry)
noncomputable def fragOf (as:List Addr):Frag:=as.filterMap λa=>(g a).map λo=>(a,o)
noncomputable def eT (mg:Str->Option Value)(c:Str):Addr:=(ur (mg c)).getD 0
noncomputable def Se (a:Addr):List Addr:=match g a with
 |some o=>match o.data with
  |.cls cd=>cd.mro.filterMap λv=>ur (some v)
  |_=>[]
 |none=>[]
noncomputable def U8 (a:Addr):Option Addr:=match g a with
 |some o=>match o.data with
  |.cls cd=>some cd.ns
  |_=>none
 |none=>none
noncomputable def vf (mg:Str->Option Value):Frag:=
 let Jg:=(f5.flatMap λc=>Se g (eT mg c.1))
 let J3:=Jg.filterMap (U8 g)
 fragOf g (Jg++J3++J3.flatMap λa=>((sF g a).getD []).filterMap λe=>ur (some e.val))
noncomputable def o6 (x:Option (Option Value)):Option Addr:=x.bind (·.bind m6)
noncomputable def iS (mg:Str->Option Value)(az:Frag)(i:Nat×Nat):Addr:=match k9.lookup i with
 |some (none,n)=>(ur (mg n)).getD 0
 |some (some c,m)=>(o6 (findIn az (.ref (eT mg c)) m)).getD 0
 |none=>0
noncomputable def Dp (v:Option (Option Value))(n:String):Bool:=(v.bind (·.bind Jb))==some n
noncomputable def Dq (v:Option (Option Value)):Bool:=v.any (·.isNone)
noncomputable def isFn (v:Option Value):Bool:=(v.bind H6)==some "function"
noncomputable def rp (az:Frag)(C:Addr)(t:List (Str×(Nat×Nat))):Bool:=
 Dp (findIn az (.ref C) "__getattribute__") "object.__getattribute__"&&Dq (findIn az (.ref C) "__getattr__")&&Dp (findIn az (.ref C) "__setattr__") "object.__setattr__"&&
 plainOver az C&&(clsIn az C).any (·.hasDict)&&(fieldNames.all λn=>Dq (findIn az (.ref C) n))&&(t.all λp=>(o6 (findIn az (.ref C) p.1)).any λa=>isFn (typeIn az (.ref a)))&&makesIn az C
noncomputable def FE (az:Frag)(C:Addr)(t:List (Str×(Nat×Nat))):List (Option oH):=t.map λp=>(o6 (findIn az (.ref C) p.1)).bind (rh g)
noncomputable def triples:List Value->Bool
 |[]=>true
 |a::b::_::r=>(rU a).isSome&&((rU b).isSome&&triples r)
 |_=>false
noncomputable def Gs:Bool:=((g 13).bind λo=>w9 o.data).any λT=>(m6 (T.getD 11 .none)==some 12)&&((vd (T.getD 18 .none)).isSome&&((rU (T.getD 7 .none)).isSome&&((H5 (T.getD 9 .none)).isSome&&(rU (T.getD 10 .none)).isSome)))
noncomputable def linesOf:Option (Array Value):=(g 12).bind λo=>w9 o.data
noncomputable def Gu:Bool:=(ur (cN aP "__builtins__")).any λb=>b !=builtinsNs&&(b !=mainGlobals&&(b !=12&&(g b).any λo=>o.cls==.type "module"&&(o.dict==some builtinsNs&&G_ o.data)))
noncomputable def B3 (q:Str×Option GV)(e:DictEntry):Option oH×Option V×Bool:=match q.2 with
 |some (.fn _)=>((m6 e.val).bind (rh g),none,(m6 e.val).isSome)
 |some (.const _)=>(none,rA g 5 e.val,true)
 |some (.cls _)=>(none,none,(m6 e.val).isSome)
 |_=>(none,none,true)
end
noncomputable def AW (q:Str×Option GV):Option oH×Option V×Bool:=match q.2 with
 |some (.fn i)=>(mr i,none,true)
 |some (.const v)=>(none,some v,true)
 |_=>(none,none,true)
structure Ib (g:Addr->Option Obj)(aP cH:List DictEntry)(U:Array Value):Prop where
 e3:sF g 3=some aP
 e2:sF g 2=some cH
 s2:cH.all Ha=true
 lim:(cN cH "sys.recursionlimit").isNone=true
 Yo:(cN cH sharingNotToldKey).isNone=true
 sub:(cH.all λe=>(iR e).any λk=>k.opensWith "type.__subclasses__.")=true
 bmod:Gu g aP=true
 code:Gs g=true
 Yp:linesOf g=some U
 Yq:triples U.toList=true
 pos:(fq.all λd=>(codeAmong d.pos U.toList).isNone)=true
 cls:(f5.all λc=>rp (vf (fD g) (cN aP)) (eT (cN aP) c.1) c.2)=true
 key:aP.map iR=order.map λq=>some q.1
 rows:(order.zip aP).map (λx=>B3 (fD g) x.1 x.2)=order.map AW
 sD:(f5.map λc=>FE (fD g) (vf (fD g) (cN aP)) (eT (cN aP) c.1) c.2)=f5.map λc=>c.2.map λp=>mr p.2
 laid:laidNames.map (cN aP)=[some .none,some (.builtin "__main__.__loader__#opaque"),some .none,some (.str "/claim/cut.py" 172),some .none]
noncomputable abbrev B4:=Bool×List (Option Str)×List (Option oH×Option V×Bool)×List (List (Option oH))×List (Option Value)
noncomputable def CW (g:Addr->Option Obj):Option B4:=
 (sF g 3).bind λaP=>(sF g 2).bind λcH=>(linesOf g).bind λU=>
  some (cH.all Ha&&(cN cH "sys.recursionlimit").isNone&&(cN cH sharingNotToldKey).isNone&&
   (cH.all λe=>(iR e).any λk=>k.opensWith "type.__subclasses__.")&&
   Gu g aP&&Gs g&&triples U.toList&&(fq.all λd=>(codeAmong d.pos U.toList).isNone)&&
   (f5.all λc=>rp (vf (fD g) (cN aP)) (eT (cN aP) c.1) c.2),
   aP.map iR,(order.zip aP).map (λx=>B3 (fD g) x.1 x.2),(f5.map λc=>FE (fD g) (vf (fD g) (cN aP)) (eT (cN aP) c.1) c.2),laidNames.map (cN aP))
noncomputable def told:Option B4:=some (true,order.map (λq=>some q.1),order.map AW,f5.map λc=>c.2.map λp=>mr p.2,[some .none,some (.builtin "__main__.__loader__#opaque"),some .none,some (.str "/claim/cut.py" 172),some .none])
def OY {g:Addr->Option Obj}(h:CW g=told):∃aP cH U,Ib g aP cH U:=by refine aH h λaP H h=>bc λjw=>aH h λcH h3 h=>aH h λU h4 h=>?_;have h:=oj h;have b1:=congrArg (·.1) h;simp only [Bool.and_eq_true] at b1;exact ay b1 λpK Yr=>ay pK λuQ Ys=>ay uQ λpH Yt=>ay pH λjo a9=>ay jo λCt a8=>ay Ct λCX a6=>ay CX λpU a5=>ay pU λa3 a4=>jw (⟨aP,cH,U,H,h3,a3,a4,a5,a6,a8,a9,h4,Yt,Ys,Yr,congrArg (·.2.1) h,congrArg (·.2.2.1) h,congrArg (·.2.2.2.1) h,congrArg (·.2.2.2.2) h⟩)
noncomputable def Yu:Obj:={cls:=.type "code",data:=.fields #[.str "<module>" 182,.str "<module>" 183,.str "/claim/cut.py" 184,.int 1 0,.int 0 0,.int 0 0,.int 0 0,.int 0 0,.ref 11,.bool false,.int 181 0,.ref 12,.none,.none,.none,.none,.int 185 0,.int 1 0,.str "/claim/cut.py" 186]}
noncomputable def Yv:Obj:={cls:=.type "frame",slots:=#[some (.ref 13),some (.ref 3),some (.ref 3),none,some (.str "__main__" 164),none,some (.ref 0)]}
noncomputable def Ic (P:Params):List Obj:=[boot_o_0 P,boot_o_1 P,boot_o_2 P,boot_o_3 P,boot_o_4 P,boot_o_5 P,boot_o_6 P,boot_o_7 P,boot_o_8 P,boot_o_9 P,boot_o_10 P,{cls:=.type "tuple",data:=.seq #[]},{cls:=.none,data:=.fields #[]},Yu,Yv]
noncomputable def Sa (P:Params)(os:OsState):Shared:=⟨⟨⟨Ic P⟩,(boot_heap P).life⟩,#[],boot_drawn,187,os⟩
noncomputable def m9:Pos:=⟨0,0,0,0⟩
def QS (w:World)(os:OsState):topGo treeTable pw w 11 (some (.ref 6)) 12 ⟨boot_heap w.params,#[],boot_drawn,boot_toks,os⟩ (topStub pw)=some (Sa w.params os,⟨denote treeTable (.body (behindTheImports pw) d5),.body (behindTheImports pw) d5,m9,[topFrame m9]⟩):=by rw [Fast.te15667345088766844465,Fast.te11892475500146522536,Fast.te14364793385576792824];kernel_rfl
noncomputable def Sf:List Obj->BT:=λl=>(l.zipIdx.foldl (λt p=>t.ins p.2 p.1) .nil)
noncomputable def Sb (P:Params)(os:OsState):SharedT:=⟨Sf (Ic P),15,(boot_heap P).life,#[],boot_drawn,187,os⟩
def Sg (P:Params)(os:OsState):(Sb P os).abs=Sa P os:=by kernel_rfl
def NB (w:World)(os:OsState):segRunT treeTable pw w 11 (some (.ref 6)) 1 1 (Sb w.params os) (blockOf (behindTheImports pw) d5 (.body (behindTheImports pw) d5) m9 [topFrame m9])=some (.next,Sb w.params os,.body (behindTheImports pw) d5,m9):=by kernel_rfl
noncomputable def xa (r:Flow×SharedT×Code×Pos):Flow×Code×Bool×Option B4:=(r.1,r.2.2.1,Nat.ble 1 r.2.1.toks&&Nat.blt 12 r.2.1.n&&r.2.1.gens.size==0,CW (gt r.2.1))
noncomputable def qI:Thread:=piecesOf ((behindTheImports pw).take 186) d5 (.body (behindTheImports pw) d5) m9 [topFrame m9]
def ND (w:World)(os:OsState):(segRunT treeTable pw (w.withFollow "special-get-raises" false) 11 (some (.ref 6)) 1 6900 (Sb (w.withFollow "special-get-raises" false).params os) qI).map xa=some (.next,.body (behindTheImports pw) d5,true,told):=by unfold qI;show(segRunT _ _ _ _ _ _ _ _ ⟨(execs _ _).wrap _ _ _ _,_,_,_⟩).map _=_;rw [Fast.te10110043849684766642,Fast.te14364793385576792824,Fast.te12563942051412417395];kernel_rfl
def OZ (w:World)(os:OsState):(segRunT treeTable pw (w.withFollow "special-get-raises" true) 11 (some (.ref 6)) 1 6900 (Sb (w.withFollow "special-get-raises" true).params os) qI).map xa=some (.next,.body (behindTheImports pw) d5,true,told):=by unfold qI;show(segRunT _ _ _ _ _ _ _ _ ⟨(execs _ _).wrap _ _ _ _,_,_,_⟩).map _=_;rw [Fast.te10110043849684766642,Fast.te14364793385576792824,Fast.te12563942051412417395];kernel_rfl
def Sj (w:World)(os:OsState):(segRunT treeTable pw w 11 (some (.ref 6)) 1 6900 (Sb w.params os) qI).map xa=some (.next,.body (behindTheImports pw) d5,true,told):=byRow2 "special-get-raises" (P:=λw=>(segRunT treeTable pw w 11 (some (.ref 6)) 1 6900 (Sb w.params os) qI).map xa=some (.next,.body (behindTheImports pw) d5,true,told)) (λw=>ND w os) (λw=>OZ w os) w
def kP {α β:Type}[BEq α][LawfulBEq α]:∀{l:List (α×β)}{a:α}{b:β},l.lookup a=some b->(a,b)∈l
 |(x,y)::l,a,b,h=>by
  rw [List.lookup_cons] at h
  cases e:a==x with
  |true=>replace h:=e▸h;(injection h with q_;subst q_);rw [bE e];exact mS
  |false=>replace h:=e▸h;exact aT _ (kP h)
def Hc {g:Addr->Option Obj}{h:Heap}(hg:∀a o,g a=some o->h.get? a=some o){a:Addr}{S:List DictEntry}(e:sF g a=some S)(k:∀x∈S,∃n,iR x=some n):h.Ns a (cN S):=by
 refine aH e λo ho e=>aG (Mk e) λvL ep hd q=>?_;subst q;refine fB o vL ep (hg _ _ ho) hd (λx Y=>?_) (λn=>?_)
 ·obtain ⟨n,q⟩:=k x (Array.mem_toList_iff.mpr Y);obtain ⟨t,q⟩:=sT q;exact dB n t q
 ·delta nsFind findBy cN;rw [Array.find?_toList]
def pY {α:Type}{x:Option α}{p:α->Bool}{ai:Prop}(h:x.any p=true)(k:∀y,x=some y->p y=true->ai):ai:=by
 induction x with
 |none=>exact aS h
 |some y=>exact k y rfl h
def Hd {x:DictEntry}{m:Str}(h:iR x=some m)(y:Str):x.key.isStr y=(m==y):=by refine aM (sT h) λt e=>?_;refine e.symm▸?_;rfl
def Sk:∀{S:List DictEntry}{ns:List Str},S.map iR=ns.map some->ns.Nodup->∀(i:Nat)(n:Str)(e:DictEntry),ns[i]?=some n->S[i]?=some e->cN S n=some e.val:=by
 intro bz
 induction bz with
 |nil=>intro aJ aU aW bf bB bH bS cb;exact aF cb
 |cons bU kA ak=>
  intro aJ aU aW bf bB bH bS cb
  cases aJ with
  |nil=>exact aF bS
  |cons lJ kC=>
   refine ay (List.cons.inj aU) λq1 q2=>ay (nE aW) λn1 n2=>?_;delta cN;rw [List.find?_cons,Hd q1]
   induction bf with
   |zero=>obtain rfl:=oj bS;obtain rfl:=oj cb;rw [beq_self_eq_true];rfl
   |succ bf=>have:(lJ==bB)=false:=bN λq=>n1 (q▸(dU bS));exact this.symm▸(ak q2 n2 bf bB bH bS cb)
def FF:∀{S:List DictEntry}{ns:List Str},S.map iR=ns.map some->∀{n:Str},n∉ns->cN S n=none:=by
 intro bz
 induction bz with
 |nil=>intro aJ aU aW bf;exact rfl
 |cons bB bH ak=>
  intro aJ aU aW bf
  cases aJ with
  |nil=>exact og aU
  |cons bS cb=>refine ay (List.cons.inj aU) λq1 q2=>?_;rw [List.mem_cons,not_or] at bf;delta cN;exact List.find?_cons.symm▸(Hd q1 aW).symm▸(bN (Ne.symm bf.1)).symm▸(ak q2 bf.2)
def zX:(j_.filterMap λp=>match p.2 with
  |.fn i=>cond (ey.contains p.1) (some (p.1,kY i)) none
  |_=>none)=fq.map λd=>(d.name,some d.stmt):=by kernel_rfl
def Lx:(j_.filterMap λp=>match p.2 with
  |.const v=>cond (ey.contains p.1) (some (p.1,v)) none
  |_=>none)=iL.map λd=>(d.x,.dict d.S):=by kernel_rfl
noncomputable def Ie (p:Str×GV):Bool:=match p.2 with
 |.fn i=>k9.lookup i==some (none,p.1)
 |.cls c=>p.1==c&&(f5.lookup c).isSome&&!ey.contains c
 |.blt b=>!((order.map (·.1)).contains p.1||ey.contains p.1)
 |.const _=>true
def EA:j_.all Ie=true:=by decide+kernel
structure End (w:World)(g:Addr->Option Obj)(aK s:Shared)(aP cH:List DictEntry)(U:Array Value)(mg:Str->Option Value)(bJ:Array Value):Prop where
 facts:Ib g aP cH U
 l7:∀a o,g a=some o->aK.heap.get? a=some o
 tm:jY aK s mg bJ
 defs:∀d∈fq,∃a,mg d.name=some (.ref a)/\jF s.heap a d
 Ig:∀d∈iL,∃a,mg d.x=some (.ref a)/\12<a/\DR w (gD a s.heap) s.heap a d.S
 other:∀x,x∉ey->mg x=cN aP x
section
variable{w:World} {g:Addr->Option Obj} {aK s:Shared} {aP cH:List DictEntry} {U bJ:Array Value} {mg:Str->Option Value}
variable(E:End w g aK s aP cH U mg bJ)
include E
theorem End.get {a:Addr}{o:Obj}(h:fD g a=some o):s.heap.get? a=some o:=by exact ef (QQ h) λH M h3=>E.tm.kept _ _ M h3 (E.l7 _ _ H)
theorem End.W_ (as:List Addr):(fragOf (fD g) as).In s.heap:=λa o h=>by refine aq (List.mem_filterMap.mp (kP h)) λb hb e=>lu e λo' H M=>?_;(injection M with q_ dq;subst q_;subst dq);exact E.get H
theorem End.wL {n:Str}{q:Option GV}(h:(n,q)∈order):∃e,cN aP n=some e.val/\B3 (fD g) (n,q) e=AW (n,q)/\n∉ey:=by
 refine aM (List.getElem?_of_mem h) λi hi=>?_;have hk:=E.facts.key;have fT:i<aP.length:=by rw [(by have:=congrArg List.length hk;simpa using this:aP.length=order.length)];exact (dR hi).1
 have ie:aP.map iR=(order.map (·.1)).map some:=by refine hk.symm▸List.map_map.symm▸?_;rfl
 refine bX (aP[i]) (Sk ie (wm Ls) i n _ (by refine List.getElem?_map.symm▸hi.symm▸?_;rfl:(order.map (·.1))[i]?=some n) (cM fT)) ?_ (λz=>?_)
 ·have:=congrArg (·[i]?) E.facts.rows;simpa [List.getElem?_map,List.getElem?_zip_eq_some,hi,(cM fT),List.zip_eq_zipWith,List.getElem?_zipWith] using this
 ·have:=aE Mv _ h;rw [Bool.not_eq_true'] at this;exact kH (this.symm.trans (cI z))
end
def O0 {st:Stmt}{f:fK}(h:JK st=some f):∃n a b de re tp sc ts bn pos,st=.FunctionDef n a b de re tp sc ts bn pos/\f=⟨a.args.map (·.arg),a.defaults,b,sc⟩:=by cases st<;>first|(obtain rfl:=oj h;exact ⟨_,_,_,_,_,_,_,_,_,_,rfl,rfl⟩)|exact aF h
structure Dr (i:Nat×Nat)(f:fK)(a:Arguments):Prop where
 fin:f.ok=true
 want:mr i=some ⟨.stmts f.body,f.scope,mainGlobals,builtinsNs,true,a,a_ o9 a.defaults,true⟩
 par:f.params=a.args.map (·.arg)
 lW:f.xK=a.defaults
 plain:xw a=true
 ds:(a_ o9 a.defaults).isSome=true
def Sl {i:Nat×Nat}{f:fK}(h:jn i=some f):(∃src,k9.lookup i=some src/\(i,src)∈k9)/\∃n a b de re tp sc ts bn pos,kY i=some (.FunctionDef n a b de re tp sc ts bn pos)/\f=⟨a.args.map (·.arg),a.defaults,b,sc⟩/\Dr i f a:=by refine aH h λsrc H M=>aH M λst h3 h4=>⟨(af src H (kP H)),?_⟩;obtain ⟨n,a,b,de,re,tp,sc,ts,bn,pos,rfl,rfl⟩:=O0 h4;have aY:=aE QL _ (kP H);unfold H8 at aY;rw [h3] at aY;simp only [Bool.and_eq_true] at aY;refine ⟨n,a,b,de,re,tp,sc,ts,bn,pos,h3,rfl,aY.2,?_,rfl,rfl,aY.1.1,aY.1.2⟩;delta mr;rw [h3];rfl
def E4 {a:Arguments}(h:xw a=true):AR a (a.args.map (·.arg))/\a.defaults.length<=a.args.length:=by delta xw at h;simp only [Bool.and_eq_true,List.isEmpty_iff,Option.isNone_iff_eq_none,decide_eq_true_eq] at h;exact ay h λpJ h5=>ay pJ λkn h4=>ay kn λpT h3=>ay pT λH M=>⟨⟨H,rfl,M,h3,h4⟩,h5⟩
def O1 {α β:Type}{f:α->Option β}{xs:List α}{ys:List β}(h:a_ f xs=some ys):xs.length=ys.length:=(zA h).1
def QT {ai:Addr->Option Obj}{v:Value}{q:Str}(h:Hb ai v q=true):∃c o T t,v=.ref c/\ai c=some o/\o.data=.fields T/\T[1]?=some (.str q t):=by exact aH (bE h) λc H h=>aH h λo M h=>aH h λT h3 h=>aH h λx h4 h=>aM (sT h) λt h5=>kh c o T t (nB H) M (zg h3) (h5▸h4)
def QU {ai:Addr->Option Obj}{v:Value}{ds:List V}(h:B1 ai v=some ds):v=.none/\ds=[]\/∃t o T m,v=.ref t/\ai t=some o/\o.data=.seq T m/\a_ (rA ai 3) T.toList=some ds:=by
 delta B1 at h;generalize e:BZ v=z_;induction z_ with
 |true=>rw [e] at h;exact .inl ⟨OQ e,(oj h).symm⟩
 |false=>rw [e] at h;exact aH h λt H h=>aH h λo M h=>aH h λl h3 h=>aG (Np h3) λT m h4 h5=>.inr (kh t o T m (nB H) M h4 (h5▸h))
def EB {W:Wd}{G':Addr->Option Obj}(hI:∀a o,G' a=some o->W.eF a=some o){i:Nat×Nat}{f:fK}{ar:Arguments}(F:Dr i f ar){a:Addr}(h:rh G' a=mr i):
  ∃o fd,W.eF a=some o/\o.data=.func fd/\yj W f fd:=by
 rw [F.want] at h;refine aH h λo ho h=>aH h λfd hd h=>bc λBY=>IG (oH.mk.inj (oj h)) λe1 e2 e3 e4 e5 e6 e7 e8=>ay (E4 F.plain) λP hlen=>?_;obtain ⟨ds,ni⟩:=iE F.ds;refine BY ?_;replace e7:=ni▸e7;refine ⟨o,fd,hI _ _ ho,Ml hd,F.fin,e1,e2,e3,e4,List.isEmpty_iff.mp e5,by rw [e6,F.par];exact P,λhh h0=>?_,?_⟩
 ·exact oe (QT e8) λc oc T t hc Yw jX Y=>kh c oc T t hc (h0 _ _ (hI _ _ Yw)) jX Y
 ·refine (QU e7).elim (λU9=>ay U9 λhv e=>?_) (λU_=>oe U_ λt ot T m hv JU jX e=>?_)
  ·subst e;exact d6 ([]) ([]) (F.lW▸ni) .nil (lZ _) (λ_ _=>.inl ⟨hv,rfl⟩)
  ·refine d6 T.toList ds (F.lW▸ni) (zU (λv x q=>zV hI q) e) ?_ (λhh h0=>.inr (gf t ot m hv (h0 _ _ (hI _ _ JU)) jX));rw [<-(zU (λv x q=>zV hI q) e:aO W.w ⟨W.eF,[]⟩ ds T.toList).length,<-O1 ni,F.par,lM];exact hlen
def NF {W:Wd}{hh:Heap}(hI:∀a o,hh.get? a=some o->W.eF a=some o){i:Nat×Nat}{f:fK}{ar:Arguments}(F:Dr i f ar){d:fP}{a:Addr}(R:jF hh a d)(hb:f.body=d.body)(Yx:f.scope=d.scope)(hp:d.params=ar)(h0:ar.defaults=[]):
  ∃o fd,W.eF a=some o/\o.data=.func fd/\yj W f fd:=by
 refine bc λVa=>?_;obtain ⟨⟨o,fd,e,r1,r2,r3,r4,r5,r6,r7,r8,_,c,r9,n1,n2,c2,o2,T,t,z1,z2,z3,z4⟩,hi⟩:=R;(injection z1 with q_;subst q_);refine Va (⟨o,fd,hI _ _ e,r1,F.fin,r2.symm▸hb.symm▸rfl,r3.symm▸Yx.symm▸rfl,r4,r5,r6,r7.symm▸hp.symm▸F.par.symm▸(E4 F.plain).1,λZv h'=>(kh c o2 T t r9 (h' _ _ (hI _ _ z2)) z3 z4),?_⟩);exact d6 ([]) ([]) (by refine F.lW.symm▸h0.symm▸?_;rfl) .nil (lZ _) (λ_ _=>.inl ⟨r8,rfl⟩)
section
variable{w:World} {g:Addr->Option Obj} {aK s:Shared} {aP cH:List DictEntry} {U bJ:Array Value} {mg:Str->Option Value}
noncomputable def fQ (g:Addr->Option Obj)(aP:List DictEntry):Frag:=vf (fD g) (cN aP)
noncomputable def jM (w:World)(g:Addr->Option Obj)(aP:List DictEntry)(mg:Str->Option Value)(s:Shared):Wd:=⟨w,eT mg,iS mg (fQ g aP),s.heap.get?⟩
variable(E:End w g aK s aP cH U mg bJ)
include E
theorem End.He {c:Str}{t:List (Str×(Nat×Nat))}(h:(c,t)∈f5)(hl:c∉ey):eT mg c=eT (cN aP) c/\rp (fQ g aP) (eT mg c) t=true/\∀m i,(m,i)∈t->k9.lookup i=some (some c,m)/\∃a,findIn (fQ g aP) (.ref (eT mg c)) m=some (some (.ref a))/\typeIn (fQ g aP) (.ref a)=some (.type "function")/\iS mg (fQ g aP) i=a/\rh (fD g) a=mr i:=by
 have e:eT mg c=eT (cN aP) c:=by delta eT;exact (E.other c hl).symm▸rfl
 have hc:rp (fQ g aP) (eT mg c) t=true:=by have q:=aE E.facts.cls (c,t) h;delta fQ;refine e.symm▸?_;exact q
 refine bx e hc (λm i hm=>?_);have ht:k9.lookup i=some (some c,m):=by have q:=aE OX (c,t) h;dsimp only at q;have q':=aE q (m,i) hm;exact bE q'
 refine ⟨ht,?_⟩;have H:(t.all λp=>(o6 (findIn (fQ g aP) (.ref (eT mg c)) p.1)).any λa=>isFn (typeIn (fQ g aP) (.ref a)))=true:=by delta rp at hc;simp only [Bool.and_eq_true] at hc;exact hc.1.2
 have M:=aE H (m,i) hm;generalize q:o6 (findIn (fQ g aP) (.ref (eT mg c)) m)=z_;induction z_ with
 |none=>rw [q] at M;exact aS M
 |some a=>
  replace M:=q▸M;have z':=List.map_inj_left.mp (show t.map _=t.map _ from(List.map_inj_left.mp E.facts.sD (c,t) h)) (m,i) hm;have hf:iS mg (fQ g aP) i=a:=by delta iS;rw [ht];show(o6 _).getD 0=a;refine q.symm▸?_;rfl
  have hv:rh (fD g) a=mr i:=by have z':(o6 (findIn (fQ g aP) (.ref (eT (cN aP) c)) m)).bind (rh (fD g))=mr i:=z';rw [<-e,q] at z';exact z'
  exact aH q λv q1 q2=>aH q2 λu q2 q3=>aH (bE M) λty t1 t2=>mJ a (q1.symm▸q2.symm▸(nB q3).symm▸rfl) (t1.symm▸(Mn t2).symm▸rfl) hf hv
end
def O3:(f5.all λc=>!ey.contains c.1)=true:=by decide+kernel
def FG {c:Str}{t:List (Str×(Nat×Nat))}(h:(c,t)∈f5):c∉ey:=λq=>by have:=aE O3 (c,t) h;replace this:=(cI q)▸this;exact aS this
def NG:(j_.all λp=>match p.2 with
  |.blt b=>bootBuiltins p.1==some (uN b)&&p.1 !="__name__"
  |_=>true)=true:=by decide+kernel
section
variable{w:World} {g:Addr->Option Obj} {aK s:Shared} {aP cH:List DictEntry} {U bJ:Array Value} {mg mb:Str->Option Value}
variable(E:End w g aK s aP cH U mg bJ)
include E
theorem End.Jh:CQ (jM w g aP mg s) (fQ g aP) where
 ag:=λh h0 a o q=>h0 _ _ (E.W_ _ a o q)
 cls:=λc hc=>by
  refine bc λbu=>?_;obtain ⟨t,ht⟩:=iE hc;refine ef (E.He (kP ht) (FG (kP ht))) λ_ H M=>?_;unfold rp at H;simp only [Bool.and_eq_true] at H;refine ay H λdK a8=>ay dK λdn _=>ay dn λgP a6=>ay gP λiw a5=>ay iw λmY a4=>ay mY λrW a3=>ay rW λa1 a2=>bu ?_;have J4:∀{v:Option (Option Value)}{n:String},Dp v n=true->v=some (some (.builtin n)):=λq=>aH (bE q) λu e1 e2=>aH e2 λx e3 e4=>by rw [e1,e3,Nr e4]
  have J5:∀{v:Option (Option Value)},Dq v=true->v=some none:=λq=>pY q λu e1 e2=>by rw [e1,Option.isNone_iff_eq_none.mp e2]
  refine ⟨J4 a1,J5 a2,J4 a3,a4,a5,λn hn=>J5 (aE a6 n (cE hn)),λm i hi=>bc λmV=>aH hi λt' e1 e2=>?_,a8⟩;obtain rfl:=oj (ht.symm.trans e1);obtain ⟨_,a,f1,f2,f3,_⟩:=M m i (kP e2);refine mV ?_;show findIn _ (.ref (eT mg c)) m=some (some (.ref (iS mg (fQ g aP) i)))/\typeIn _ (.ref (iS mg (fQ g aP) i))=_;exact f3.symm▸(⟨f1,f2⟩)
theorem End.statics:s.heap.Ns cStatics (cN cH):=by
 have k:∀x∈cH,∃n,iR x=some n:=λx Y=>by have:=aE E.facts.s2 x Y;exact iE this
 exact (Hc E.l7 E.facts.e2 k).at λo e=>E.tm.kept _ _ (by decide) (by decide) e
theorem End.Sm (h:Heap)(h0:∀b o,s.heap.get? b=some o->h.get? b=some o):13<h.objs.size:=by exact pY E.facts.code λT c _=>aH c λo ho _=>Heap.lt_size (h0 _ _ (E.tm.kept _ _ (by decide) (by decide) (E.l7 _ _ ho)))
theorem End.fns:xR (jM w g aP mg s) where
 lim:=λh h0=>af (cN cH) (E.statics.keeps h0) (Option.isNone_iff_eq_none.mp E.facts.lim)
 fn:=λi f hf=>by
  obtain ⟨⟨src,H,hm⟩,n,a,b,de,re,tp,sc,ts,bn,pos,Ds,rfl,F⟩:=Sl hf;rcases pE hm with q|q
  ·obtain ⟨⟨x,gv⟩,Y,e⟩:=List.mem_filterMap.mp q
   induction gv with
   |fn j=>
    cases e
    generalize el:ey.contains x=z_;induction z_ with
    |true=>
     have hl:(x,kY i)∈fq.map λd=>(d.name,some d.stmt):=by refine zX▸?_;exact List.mem_filterMap.mpr ⟨(x,.fn i),Y,by dsimp only;refine el.symm▸?_;rfl⟩
     refine bc λBL=>bT hl λd hd e=>o8 e λe1 e2=>BL ?_;rw [Ds] at e2;have e2:=oj e2;injection e2 with z1 z2 z3 z4 z5 z6 z7 z8 z9 Zw;refine aq (E.defs d hd) λad ha R=>?_;have qi:(jM w g aP mg s).eI i=ad:=by show iS mg (fQ g aP) i=ad;delta iS;rw [H];dsimp only;refine e1▸ha.symm▸?_;rfl
     exact qi.symm▸(NF (λ_ _ q=>q) F R z3.symm z7.symm z2 (z2▸(s9 d hd).lW))
    |false=>
     refine bc λpT=>?_;refine bW (E.wL (wD Y (by delta early;refine el.symm▸?_;rfl))) λen q1 q2 _=>?_;have ng:x∉ey:=λz=>by replace el:=(cI z)▸el;exact d7 el
     dsimp only at q2;refine aM (iE (Prod.mk.inj (Prod.mk.inj q2).2).2) λad hr=>pT ?_;have q3:=(Prod.mk.inj q2).1;rw [hr] at q3;have qi:(jM w g aP mg s).eI i=ad:=by show iS mg (fQ g aP) i=ad;delta iS;rw [H];dsimp only;refine (E.other x ng).symm▸q1.symm▸(nB hr).symm▸?_;rfl
     exact qi.symm▸(EB (λa o q=>E.get q:∀a o,fD g a=some o->(jM w g aP mg s).eF a=some o) F q3)
   |_=>exact aF e
  ·obtain ⟨⟨c,t⟩,hc,hp⟩:=List.mem_flatMap.mp q;refine bc λVb=>?_;obtain ⟨⟨m,j⟩,Yy,e⟩:=XX hp;(injection e with q_;subst q_);refine ef (E.He hc (FG hc)) λ_ _ M=>?_;obtain ⟨_,ad,_,_,f3,f4⟩:=M m j Yy;exact Vb ((show(jM w g aP mg s).eI j=ad from f3).symm▸(EB (λa o q=>E.get q:∀a o,fD g a=some o->(jM w g aP mg s).eF a=some o) F f4))
theorem End.tp (hb:s.heap.Ns builtinsNs mb)(oI:∀x:Str,x≠"__name__"->mb x=bootBuiltins x):Tp (jM w g aP mg s) where
 glob:=by
  refine ax mg mb (λh h0=>⟨E.tm.main.g.keeps h0,hb.keeps h0⟩) (λx gv Y=>?_);have hm:=kP Y;have hs:=aE EA _ hm;unfold Ie at hs
  induction gv with
  |blt b=>dsimp only at hs;rw [Bool.not_eq_true',Bool.or_eq_false_iff] at hs;have n2:x∉ey:=λz=>kH (hs.2.symm.trans (cI z));have yO:=aE NG _ hm;dsimp only at yO;rw [Bool.and_eq_true,beq_iff_eq,bne_iff_ne] at yO;exact af (uN b) rfl (.inr ⟨(E.other x n2).trans (FF (by refine E.facts.key.symm▸List.map_map.symm▸?_;rfl:aP.map iR=(order.map (·.1)).map some) (λz=>kH (hs.1.symm.trans (cI z)))),(oI x yO.2).trans yO.1⟩)
  |cls c=>
   dsimp only at hs;rw [Bool.and_eq_true,Bool.and_eq_true,beq_iff_eq] at hs;refine bc λVc=>?_;obtain ⟨⟨e1,_⟩,e2⟩:=hs;subst e1;have el:ey.contains x=false:=by rwa [Bool.not_eq_true'] at e2
   have he:early (x,.cls x)=true:=by delta early;dsimp only;rw [el];rfl
   refine bW (E.wL (wD hm he)) λen q1 q2 q3=>?_;dsimp only at q2;have q4:=(Prod.mk.inj (Prod.mk.inj q2).2).2;obtain ⟨ad,hr⟩:=iE q4;refine Vc ?_;have q1:=(nB hr)▸q1;refine af (.ref ad) ?_ (.inl ((E.other x q3).trans q1));show Value.ref ad=.ref (eT mg x);delta eT;refine (E.other x q3).symm▸q1.symm▸?_;rfl
  |fn i=>
   have key:∀ad,mg x=some (.ref ad)->∃u,GR (jM w g aP mg s) u (.fn i)/\(mg x=some u\/mg x=none/\mb x=some u):=λad ha=>by refine af (.ref ad) ?_ (.inl ha);show Value.ref ad=.ref (iS mg (fQ g aP) i);delta iS;refine (bE hs).symm▸?_;dsimp only;refine ha.symm▸?_;rfl
   generalize el:ey.contains x=z_;induction z_ with
   |true=>
    have hl:(x,kY i)∈fq.map λd=>(d.name,some d.stmt):=by refine zX▸?_;exact List.mem_filterMap.mpr ⟨(x,.fn i),hm,by dsimp only;refine el.symm▸?_;rfl⟩
    exact bc λSn=>bT hl λd hd e=>o8 e λe1 _=>aq (E.defs d hd) λad ha _=>Sn (key ad (e1▸ha))
   |false=>
    have he:early (x,.fn i)=true:=by delta early;dsimp only;rw [el];rfl
    refine bW (E.wL (wD hm he)) λen q1 q2 q3=>?_;dsimp only at q2;obtain ⟨ad,hr⟩:=iE (Prod.mk.inj (Prod.mk.inj q2).2).2;exact key ad ((E.other x q3).trans ((nB hr)▸q1))
  |const v=>
   generalize el:ey.contains x=z_;induction z_ with
   |true=>
    have hl:(x,v)∈iL.map λd=>(d.x,V.dict d.S):=by refine Lx▸?_;exact List.mem_filterMap.mpr ⟨(x,.const v),hm,by dsimp only;refine el.symm▸?_;rfl⟩
    refine bc λSo=>bT hl λd hd e=>o8 e λe1 e2=>?_;subst e1 e2;obtain ⟨ad,ha,_,o,ds,ep,r1,r2,r3⟩:=E.Ig d hd;exact So (af (.ref ad) (.dict r1 r2 (r3.mono ⟨λb o q=>(Aq q).2.2.2,List.prefix_refl _⟩)) (.inl ha))
   |false=>
    have he:early (x,.const v)=true:=by delta early;dsimp only;rw [el];rfl
    refine bW (E.wL (wD hm he)) λen q1 q2 q3=>?_;have q4:rA (fD g) 5 en.val=some v:=(Prod.mk.inj (Prod.mk.inj q2).2).1;exact af en.val (zV (λa o z=>E.get z) q4) (.inl ((E.other x q3).trans q1))
 size:=λh h0=>Nat.lt_trans (nl rfl) (E.Sm h h0)
 booked:=λh h0=>af (cN cH) (E.statics.keeps h0) (Option.isNone_iff_eq_none.mp E.facts.Yo)
end
noncomputable def mD (w:World)(os:OsState):Shared:=⟨boot_heap w.params,#[],boot_drawn,boot_toks,os⟩
def QV (w:World)(os:OsState):∃n aK p',yM pw w 11 (some (.ref 6)) n (mD w os) aK.abs (topStub pw) (restOf (j6.drop 186) d5 (.body (behindTheImports pw) d5) p' [topFrame m9])/\0<aK.toks/\12<aK.n/\aK.gens=#[]/\CW (gt aK)=told:=by refine bc λcx=>?_;obtain ⟨⟨fl,aK,c,p'⟩,H,M⟩:=Option.map_eq_some_iff.mp (Sj w os);refine o8 M λe1 M=>o8 M λe2 M=>o8 M λe3 e4=>?_;dsimp only at e1 e2 e3 e4;subst e1 e2;simp only [Bool.and_eq_true,beq_iff_eq] at e3;obtain ⟨m1,g1⟩:=Mp (segRun_of (NB w os));obtain ⟨m2,g2⟩:=Mo (segRun_of H);refine cx ?_;rw [List.take_append_drop] at g2;rw [Sg] at g1 g2;have g:=H9 (QS w os) (H9 g1 g2);rw [<-table_eq_tree] at g;exact mK _ aK p' (R8 g) (Nat.le_of_ble_eq_true e3.1.1) (Nat.le_of_ble_eq_true e3.1.2) (Array.eq_empty_of_size_eq_zero e3.2) e4
def NH (P:Params):((boot_heap P).isNs mainGlobals&&(boot_heap P).isNs builtinsNs)=true:=by kernel_rfl
def NI (P:Params):(boot_heap P).bltView=bltViewBooted:=by kernel_rfl
def O4 (P:Params):globalOf (boot_heap P) "__annotations__"=some (.ref 6):=by kernel_rfl
def K5 (P:Params)(key:Str):staticOf (boot_heap P) key=none:=by kernel_rfl
def NJ (P:Params):(boot_heap P).objs.size=11:=by kernel_rfl
def zB (P:Params):(boot_heap P).life.registered=[]/\(boot_heap P).life.counting=false:=⟨by kernel_rfl,by kernel_rfl⟩
def Mx (b:List Stmt)(e:Env):(callerA.under (.body b e)).units+250<cLine:=by have:(callerA.under (.body b e)).units=callerA.units+(Code.body b e).cUnits:=rfl;refine this.symm▸?_;show 4+3*(Code.body b e).frames+250<9900;have:(Code.body b e).frames=1:=rfl;exact Nat.le_add_left _ _
def QW {h:Heap}{P:Params}{b:Addr}{o:Obj}(e:(boot_heap P).get? b=some o):b<11:=by have:=Heap.lt_size e;rwa [NJ] at this
structure CY (w:World)(aK:Shared)(aP:List DictEntry)(s':Shared)(cT:Str->Option Value)(bJ:Array Value):Prop where
 tm:jY aK s' cT bJ
 defs:∀d∈fq,∃a,cT d.name=some (.ref a)/\jF s'.heap a d
 Ig:∀d∈iL,∃a,cT d.x=some (.ref a)/\12<a/\DR w (gD a s'.heap) s'.heap a d.S
 other:∀x,x∉ey->cT x=cN aP x
def NK (w:World){A:Around}(hu:A.units+250<cLine){s:Shared}{mg:Str->Option Value}{U:Array Value}(m:s.heap.Main mg 13 12 U)(d9:12<s.heap.objs.size)(pX:∀d∈fq,codeAmong d.pos U.toList=none){Q:Flow->Shared->Prop}
  (hq:∀s' cT bJ,jY s s' cT bJ->(∀d∈fq,∃a,cT d.name=some (.ref a)/\jF s'.heap a d)->(∀d∈iL,∃a,cT d.x=some (.ref a)/\12<a/\DR w (gD a s'.heap) s'.heap a d.S)->(∀x,x∉ey->cT x=mg x)->Q .next s'):
  wpAny (model pw w) A (execs (j6.drop 186) d5) Q aA s:=by
 exact OW.symm▸(@U4 ⟨w,λ_=>0,λ_=>0,λ_=>none⟩ A hu iL fq (λd hd=>QP hd) s9 (wm Lr) (Lq Ms) s mg U m d9 pX Q hq)
def O5 (w:World)(os:OsState){n:Nat}{aK:SharedT}{p':Pos}{aP:List DictEntry}{U:Array Value}
  (R:yM pw w 11 (some (.ref 6)) n (mD w os) aK.abs (topStub pw) (restOf (j6.drop 186) d5 (.body (behindTheImports pw) d5) p' [topFrame m9])) (hz:(mD w os).asleep) (hg:aK.abs.gens=#[])
  (B5:aK.abs.heap.Main (cN aP) 13 12 U) (d9:12<aK.abs.heap.objs.size) (pX:∀d∈fq,codeAmong d.pos U.toList=none):
  ∃cy s t' mg bJ,schedN (denote table) pw w cy (.single (mD w os) (topStub pw))=.running (.single s t')/\through t'=true/\CY w aK.abs aP s mg bJ/\s.gens=#[]/\s.heap.life=(mD w os).heap.life:=by
 have mB:=@NK w (callerA.under (.body (behindTheImports pw) d5)) (Mx (behindTheImports pw) d5) aK.abs (cN aP) U B5 d9 pX (λ_ s'=>(∃cT bJ,CY w aK.abs aP s' cT bJ)/\s'.gens=#[])
  λs' cT bJ I f d o=>And.intro ⟨cT,bJ,CY.mk I f d o⟩ (by refine aG I.ext λ_ _ _ e=>?_;rw [e];exact hg)
 generalize j6.drop 186=L at R mB;generalize d5=EE at R mB;exact mI (Nv R hz mB) λcy s t' H M dn h4 h5=>c9 dn λmg bJ h3=>rN cy s t' mg bJ H M h3 h4 h5
def Hg:∀{l:List Value},triples l=true->TriplesOk l
 |[],_=>trivial
 |[_],h=>aS h
 |[_,_],h=>aS h
 |a::b::c::r,h=>by refine gK h λH h=>gK h λM h=>aM (iE H) λi q1=>aM (sU q1) λt1 q1=>aM (iE M) λj q2=>aM (sU q2) λt2 q2=>?_;subst q1 q2;exact (Hg h:TriplesOk r)
def QX (w:World)(os:OsState):∃aK s g aP cH U mg bJ mb,End w g aK s aP cH U mg bJ/\TopRan pw w (mD w os) s/\s.asleep/\s.gens=#[]/\0<s.toks/\s.os=os/\s.heap.Ns builtinsNs mb/\∀x:Str,x≠"__name__"->mb x=bootBuiltins x:=by
 refine bc λBP=>mI (QV w os) λn aK p' R htk hn hg ht=>eU (OY ht) λaP cH U F=>?_;have l7:∀a o,gt aK a=some o->aK.abs.heap.get? a=some o:=λa o h=>U7 h;have ie:aP.map iR=(order.map (·.1)).map some:=by refine F.key.symm▸List.map_map.symm▸?_;rfl
 have k3:∀x∈aP,∃n,iR x=some n:=λx Y=>by have:iR x∈(order.map (·.1)).map some:=ie▸mM Y;exact bT this λn _ e=>⟨n,e.symm⟩
 have B5:aK.abs.heap.Main (cN aP) 13 12 U:=by
  refine ⟨(Hc l7 F.e3 k3),?_,by decide,?_⟩
  ·exact pY F.code λT c c1=>aH c λo ho jX=>aH F.Yp λop Yz YA=>gK c1 λc1 c2=>gK c2 λc2 c3=>gK c3 λc3 c4=>gK c4 λc4 c5=>aM (iE c2) λfile q2=>aM (sT q2) λtf q2=>aM (iE c3) λfl q3=>aM (sU q3) λtg q3=>aM (iE c4) λYB q4=>aM (iE c5) λtx q5=>aM (sU q5) λtt q5=>⟨o,T,file,tf,fl,tg,YB,tx,tt,op,l7 _ _ ho,zg jX,nB (bE c1),q2,q3,Mm q4,q5,l7 _ _ Yz,zg YA,Hg F.Yq,by decide⟩
  ·exact pY F.bmod λbm Dn b=>aH Dn λv H M=>gK b λb1 b=>gK b λb2 b=>gK b λb3 b=>pY b λo ho b=>gK b λb5 b=>gK b λb6 b7=>Ws bm o (H.trans (congrArg some (nB M))) (bne_iff_ne.mp b1) (bne_iff_ne.mp b2) (bne_iff_ne.mp b3) (l7 _ _ ho) (bE b5) (bE b6) (Nq b7)
 obtain ⟨cy,s,t',mg,bJ,hs,Xa,⟨I,f,dd,Dt⟩,Ih,B6⟩:=O5 w os R (zB w.params) hg B5 (pY F.code λT c _=>aH c λo ho _=>Nat.lt_trans (nl rfl) (Heap.lt_size (l7 _ _ ho))) (λd hd=>Option.isNone_iff_eq_none.mp (aE F.pos d hd));have E:End w (gt aK) aK.abs s aP cH U mg bJ:=⟨F,l7,I,f,dd,Dt⟩;have keep:∀b o,b<11->b≠mainNs->b≠cStatics->b≠6->(mD w os).heap.get? b=some o->s.heap.get? b=some o:=λb o H M h3 h4 q=>I.kept b o (Nat.ne_of_lt (Nat.lt_trans H (nl rfl))) M (R.kept b o H M h3 (λz=>h4 (by injection oj z with z;exact z.symm)) q)
 have bn:=iD (NH w.params);have hb:=(Heap.Ns.of_isNs bn.2).at λo q=>keep _ _ (nl rfl) (by decide) (by decide) (by decide) q;have oI:=λx Y=>Heap.of_bltView bn.2 (NI w.params) x Y;refine aG I.ext λhh tk Xb S=>BP ?_;have Ji:∀key v,staticOf s.heap key=some v->key.opensWith "type.__subclasses__."=true:=λkey v hv=>by refine eP E.statics λo vL ep ho hd J6 hf=>?_;delta staticOf at hv;replace hv:=ho▸hv;dsimp only at hv;replace hv:=hd▸hv;dsimp only at hv;have:=hf key;unfold nsFind findBy at this;rw [hv] at this;refine lu this.symm λe he _=>?_;have hp:=List.find?_some he;refine pY (aE F.sub e (List.mem_of_find?_eq_some he)) λk hk jV=>aM (sT hk) λtk hk=>?_;rw [hk] at hp;exact (bE hp)▸jV
 refine ⟨aK.abs,s,gt aK,aP,cH,U,mg,bJ,_,E,⟨(ax cy t' hs Xa),B6,Shared.rest_eq (by refine (by rw [S];exact R.os:s.os=os).symm▸?_;rfl),λb o q vA=>?_,λkey v hv=>.inr (.inl (by delta runKey;refine (Ji key v hv).symm▸?_;rfl)),λkey=>?_,?_,λx Y=>?_,?_,λg' kK=>?_,λx v hv=>?_,λx Y=>?_⟩,⟨B6▸(zB w.params).1,B6▸(zB w.params).2⟩,Ih,lL htk (by rw [S];exact Xb),(by rw [S];exact R.os),hb,oI⟩
 ·refine keep b o (QW (h:=hh) q) (λz=>vA (.inl z)) (λz=>vA (.inr (.inl z))) (λz=>vA (.inr (.inr ?_))) q;refine z.symm▸?_;exact O4 w.params
 ·generalize hv:staticOf s.heap key=z_;induction z_ with
  |none=>exact .inl (K5 w.params key).symm
  |some v=>exact .inr (.inr (.inl (Ji key v hv)))
 ·exact eP I.main.g λo vL ep ho hd J6 _=>gf o vL ep ho hd J6
 ·refine eP hb λo vL ep ho hd _ hf=>?_;delta builtinOf;rw [ho];dsimp only;exact hd.symm▸((hf x).trans (oI x Y))
 ·exact Wq I.main.bmod λbm o H M h3 h4 h5 h6 h7 h8=>d6 bm o ((PySem.Claim2Try.globalOf_of_ns I.main.g _).trans H) h5 h6 h7
 ·rw [Ih] at kK;simp at kK
 ·rw [PySem.Claim2Try.globalOf_of_ns I.main.g] at hv;by_cases hl:x∈ey
  ·exact .inr (cE (aE Mw x hl))
  ·replace hv:=(Dt x hl)▸hv;by_cases ho:x∈order.map (·.1)
   ·(refine bT ho λq hq t_=>?_;subst t_);have:=aE Lw q hq;simpa only [Bool.or_eq_true,List.contains_iff_mem] using this
   ·replace hv:=(FF ie ho)▸hv;exact aF hv
 ·have e1:=F.laid;have hl:x∉ey:=λz=>by
   have:(laidNames.all λx=>!ey.contains x)=true:=by decide+kernel
   have:=aE this x Y;replace this:=(cI z)▸this;exact aS this
  exact (PySem.Claim2Try.globalOf_of_ns I.main.g x).trans ((Dt x hl).trans (List.map_inj_left.mp e1 x Y))
noncomputable abbrev pZ:RowW:=PySem.Challenge.rw_or0006_01.row.toRowW
def Hh:j_.lookup (.ofString "law")=some (.fn (207,0)):=by kernel_rfl
def O6:ey.contains "law"=true:=by decide+kernel
def QY:(kY (207,0)).bind (λst=>match st with|.FunctionDef _ a b _ _ _ sc _ _ _=>some (a,b,sc)|_=>none)=pw.theDef "law":=by kernel_rfl
def QZ:k9.lookup (207,0)=some (none,.ofString "law"):=by have:=aE EA _ (kP Hh);exact bE this
def FH {R:WRecords}{cl:Str->Option Addr}{P:Params}{ord:List DictEntry->List DictEntry}:∀(ns:List Int)(s:Shared),∃us,layAllW R cl P ord (ns.map .int) s=some (us,{s with toks:=s.toks+ns.length})/\∀w g,aO w g (ns.map .int) us
 |[],s=>af ([]) (by simp [layAllW]) (λ_ _=>.nil)
 |n::ns,s=>by refine aq (FH (R:=R) (cl:=cl) (P:=P) (ord:=ord) ns {s with toks:=s.toks+1}) λus H M=>af (.int n s.toks::us) ?_ (λw g=>.cons (.int _ _) (M w g));simp only [List.map_cons,layAllW,layW,H,List.length_cons];rw [Nat.add_assoc,Nat.add_comm 1]
def O7 {R:WRecords}:∀{xs:List WData},WShape.hasItems R xs .int=true->∃ns:List Int,xs=ns.map .int:=by
 intro z_
 induction z_ with
 |nil=>intro _;exact ⟨[],rfl⟩
 |cons d xs ak=>
  intro h;simp only [WShape.hasItems,Bool.and_eq_true] at h;obtain ⟨ns,rfl⟩:=ak h.2
  cases d with
  |int n=>exact ⟨n::ns,rfl⟩
  |_=>exact aS h.1
def O8 {args:List WData}(h:pZ.claim.pre args=true):∃ns:List Int,args=[.list (ns.map .int)]/\ns.length<=63:=by
 refine ay (pre_splitW h) λH M=>?_;(refine aw (@hasAllW_cons _ _ _ [] H) λd r eY h3 h4=>?_;subst eY);obtain rfl:=hasAllW_nil h4;(refine aq (hasW_list h3) λxs gP h5=>?_;subst gP);(refine aM (O7 h5) λns mY=>?_;subst mY);refine af ns rfl ?_;have e1:WTm.value ([]) (.lt (.lit (.int 63)) (.len (.arg 0))) {args:=[.list (ns.map .int)]}=some (.bool (decide ((63:Int)<((ns.map WData.int).length)))):=rfl;have h6:WTm.holds ([]) (.and (.not (.lt (.lit (.int 63)) (.len (.arg 0)))) (.lit (.bool true))) {args:=[.list (ns.map .int)]}=true:=M;rw [lM] at e1;by_cases q:ns.length<=63
 ·exact q
 ·exfalso;rw [dT (show(63:Int)<ns.length from(Int.ofNat_lt (n:=63)).mpr (Nat.not_le.mp q))] at e1;have e2:WTm.value ([]) (.not (.lt (.lit (.int 63)) (.len (.arg 0)))) {args:=[.list (ns.map .int)]}=some (.bool false):=by
   rw [WTm.value,e1];rfl
  have e3:WTm.value ([]) (.and (.not (.lt (.lit (.int 63)) (.len (.arg 0)))) (.lit (.bool true))) {args:=[.list (ns.map .int)]}=some (.bool false):=by rw [WTm.value,e2]
  delta WTm.holds at h6;rw [e3] at h6;exact aS h6
def Mz:opening pw=plainProg pw.main.scope.names:=by kernel_rfl
def MA (s:Shared):fenceModules? pw s=some s:=by kernel_rfl
section
variable{w:World} {g:Addr->Option Obj} {aK s:Shared} {aP cH:List DictEntry} {U bJ:Array Value} {mg mb:Str->Option Value}
def End.J7 (E:End w g aK s aP cH U mg bJ):∃a d,d∈fq/\d.name=.ofString "law"/\kY (207,0)=some d.stmt/\mg "law"=some (.ref a)/\jF s.heap a d/\(jM w g aP mg s).eI (207,0)=a:=by
 have hl:(Str.ofString "law",kY (207,0))∈fq.map λd=>(d.name,some d.stmt):=by refine zX▸?_;exact List.mem_filterMap.mpr ⟨(.ofString "law",.fn (207,0)),kP Hh,by dsimp only;refine O6.symm▸?_;rfl⟩
 refine bc λjr=>bT hl λd hd e=>o8 e λe1 e2=>aq (E.defs d hd) λa ha R=>jr ?_;rw [e1] at ha;refine IL a d hd e1 e2.symm ha R ?_;show iS mg (fQ g aP) (207,0)=a;delta iS;refine QZ.symm▸?_;dsimp only;refine ha.symm▸?_;rfl
def End.pin (E:End w g aK s aP cH U mg bJ):isTheDefsW pw s.heap "law":=by
 refine bc λpO=>xY E.J7 λa d hd e1 e2 ha R _=>?_;obtain ⟨⟨o,fd,r0,r1,r2,r3,r4,r5,r6,r7,r8,⟨r9,YC,YD⟩,_⟩,_⟩:=R;refine pO (⟨a,o,fd,d.params,d.body,d.scope,(PySem.Claim2Try.globalOf_of_ns E.tm.main.g _).trans ha,r0,r1,?_,r9.trans e1,YC.trans e1,r7,r2,r3,r4,r6,r5,.inl ⟨(s9 d hd).lW,r8⟩,[],?_,.inl ⟨rfl,YD⟩⟩)
 ·refine QY▸e2.symm▸?_;rfl
 ·refine ((s9 d hd).kw).symm▸((s9 d hd).J2).symm▸?_;rfl
def End.call (E:End w g aK s aP cH U mg bJ)(hb:s.heap.Ns builtinsNs mb)(oI:∀x:Str,x≠"__name__"->mb x=bootBuiltins x){s₁:Shared}(hk:∀b o,s.heap.get? b=some o->s₁.heap.get? b=some o)(htk:0<s₁.toks)
  {ns:List Int} {a:Addr} {us:List Value} (ha:s₁.heap.get? a=some (lobj us.toArray 0)) (hu:∀w g,aO w g (ns.map .int) us) {σ:St} (hl:ae 40 (207,0) [.list (ns.map .int)] ⟨[],0⟩=some (.val (.bool true),σ)):
  wpAny (model pw w) callerA (PySem.call (.ref ((jM w g aP mg s).eI (207,0))) [.ref a]) (λv s'=>v=.bool true/\(∀b o,s₁.heap.get? b=some o->s'.heap.get? b=some o)/\s'.gens=s₁.gens/\s'.os=s₁.os) aA s₁:=by
 let k:az:=⟨⟨s₁.heap.get?,[]⟩,λ_=>0,s₁⟩
 have h:=(rb.G9 E.fns Fy (zT (QJ (E.tp hb oI) (UU E.Jh)) E.fns (QK E.Jh) (n:=80) (nl rfl)):mq (jM w g aP mg s) 80 (ae 40)).run (k:=k) hl (⟨rfl,nl rfl,nl rfl⟩:Rm 80 callerA) htk hk (⟨λb o q=>q,(λj o q=>nomatch q),.nil,rfl,(λ_ h=>cj h),(λj o q=>nomatch q)⟩) (.cons (.list ha (by rw [List.toList_toArray];exact hu _ _)) .nil);refine wpAny_mono h (λv s' Vd=>aM Vd λg' q=>eQ ?_ (λb o z=>(q.go.kept b o z λ_ h=>cj h).resolve_right id) ?_ ?_) λ_ _ q=>q
 ·have:=q.got.fu
  cases this;rfl
 ·obtain ⟨_,_,_,e⟩:=q.go.rest;rw [show s'=_ from e]
 ·obtain ⟨_,_,_,e⟩:=q.go.rest;rw [show s'=_ from e]
end
def Sq (w:World):∃os,fencedOpening treeTable pw w 700=some (mD w os):=by
 refine bc λBy=>?_;obtain ⟨⟨h,gs,d,k,os⟩,e,e'⟩:=Option.map_eq_some_iff.mp (boot_open (N:=700) Mz (by rfl) MA w);obtain ⟨rfl,rfl,rfl,rfl⟩:h=boot_heap w.params/\gs=Array.mk []/\d=boot_drawn/\k=boot_toks:=by simpa using e'
 exact By (eg os e)
def FJ:Prop:=∀ns:List Int,ns.length<=63->∃σ,ae 40 (207,0) [.list (ns.map .int)] ⟨[],0⟩=some (.val (.bool true),σ)
def MB:pw.tablesWhole=true:=by delta Program.tablesWhole TablesWhole.wProgram;refine Fast.te6116379765354995101.symm▸?_;kernel_rfl
def O9 (L:FJ):pZ.claim.HoldsOpenBy (callStub pZ.name) [pZ.name] PySem.Challenge.rw_or0006_01.row.keeps false:=by
 refine bx (bx (IK rfl rfl rfl rfl rfl MB) (by kernel_rfl) rfl) ⟨[.list []],by kernel_rfl,by kernel_rfl⟩ (λw=>bc λB7=>aM (Sq w) λos hf=>aH hf λs h4 h5=>B7 ?_);replace h4:=table_eq_tree.symm▸h4;refine ⟨⟨s,(AfterImport.of_importEnds h4)⟩,λs' jV=>bc λVe=>?_⟩;obtain rfl:s'=s:=AfterImport.unique jV (AfterImport.of_importEnds h4);obtain ⟨aK,s₁,g,aP,cH,U,mg,bJ,mb,E,hT,hz,hg,htk,sm,hb,oI⟩:=QX w os;refine Ve (⟨mD w os,h5,rfl,s₁,hT,λn hn=>?_,(λ_ h=>cj h),(λ_ h=>cj h),?_⟩)
 ·obtain rfl:=sE hn;exact E.pin
 refine ClaimW.callFrom_of_specG hz hg λargs Xc Xd ord Jj=>bc λVf=>?_;(refine aq (O8 Xc) λns uP hlen=>?_;subst uP);refine aq (FH (R:=pZ.claim.records) (cl:=classAt s₁.heap) (P:=w.params) (ord:=ord) ns s₁) λus YE YF=>aM (L ns hlen) λσ YG=>?_;have rE:layAllW pZ.claim.records (classAt s₁.heap) w.params ord [.list (ns.map .int)] s₁=some ([.ref s₁.heap.objs.size],{s₁ with toks:=s₁.toks+ns.length,heap:=s₁.heap.push (lobj us.toArray 0)}):=by simp only [layAllW,layW,YE]
 refine bW (reads_layAllW Jj _ _ _ rE Xd (s₁.heap.push (lobj us.toArray 0)) (λ_ _ e=>e)) λas Df gY hold=>Vf (ax _ _ rE (xY E.J7 λa d hd e1 e2 ha R qi=>?_));have call:=E.call hb oI (s₁:={s₁ with toks:=s₁.toks+ns.length,heap:=s₁.heap.push (lobj us.toArray 0)}) (layAllW_keeps _ _ _ rE) (lL htk (lA ..)) (Heap.get?_push_size _ rfl) YF YG;rw [qi] at call;refine wpAny_bind (wpAny_nsGet (E.tm.main.g.keeps (layAllW_keeps _ _ _ rE)) (ha.symm▸(wpAny_bind (wpAny_mono call (λv s' q=>?_) λ_ _ q=>q.elim))));(refine jm q λkq q1 q2 q3=>?_;subst kq);refine wpAny_pure (af (.ret (.bool true)) rfl ?_);have ai:GoodWG pZ.claim (classAt s₁.heap) (ExcName.means s₁.heap) [.list (ns.map .int)] {s₁ with toks:=s₁.toks+ns.length,heap:=s₁.heap.push (lobj us.toArray 0)} (.ok (.ret (.bool true))) s':=(eQ (.inl (mK (.bool true) (.bool true) ([]) rfl (λ_=>rfl) (.bool true) (by kernel_rfl) (λ_=>⟨List.nodup_nil,λ_ h=>cj h⟩))) (.of_keep q1) q3 (.of_eq (q2.trans hg)))
 have z:=ai.laid rfl rfl (λa b=>ident_freeW rfl rfl rfl a b) (⟨(af ord Jj rE),Df,gY,hold,(layAllW_keeps _ _ _ rE),hg,rfl⟩);exact eQ z.1 z.2.1 z.2.2 (λq=>aS q)
inductive Tr (R:Type):Type
 |no
 |done (r:R)
 |qB (x:Option Bool) (k:Bool->Tr R)
 |qV (x:Option V) (k:V->Tr R)
 |qL (x:Option LV) (k:LV->Tr R)
 |qS (x:Option (List V)) (k:List V->Tr R)
 |qE (x:Option (List (V×V))) (k:List (V×V)->Tr R)
 |qR (x:Kt) (k:LV->St->Tr R)
 |qO (x:Option (Nat×St)) (k:Nat->St->Tr R)
 |qG (b:Bool) (k:Tr R)
 |qC (l:(List V->St->Kt)->Kt) (k:List V->St->Tr R)
 |qF (l:(Fl->X->Kt)->Kt) (k:Fl->X->Tr R)
noncomputable def Tr.run {R:Type}:Tr R->(R->Kt)->Kt
 |.no,_=>none
 |.done r,g=>g r
 |.qB x k,g=>x.bind λb=>(k b).run g
 |.qV x k,g=>x.bind λb=>(k b).run g
 |.qL x k,g=>x.bind λb=>(k b).run g
 |.qS x k,g=>x.bind λb=>(k b).run g
 |.qE x k,g=>x.bind λb=>(k b).run g
 |.qR x k,g=>x.bind λb=>(k b.1 b.2).run g
 |.qO x k,g=>x.bind λb=>(k b.1 b.2).run g
 |.qG b k,g=>guard b (k.run g)
 |.qC l k,g=>l λT σ=>(k T σ).run g
 |.qF l k,g=>l λfl x=>(k fl x).run g
inductive An where
 |z
 |g
 |b (a:Bool)
 |v (a:V)
 |l (a:LV)
 |s (a:List V)
 |e (a:List (V×V))
 |r (a:LV×St)
 |o (a:Nat×St)
 |c (a:List V×St)
 |f (a:Fl×X)
noncomputable def An.auto:An->Bool
 |.z=>true
 |_=>false
noncomputable def An.gG:An->Option Unit
 |.g=>some ()
 |_=>none
noncomputable def An.gB:An->Option Bool
 |.b x=>some x
 |_=>none
noncomputable def An.gV:An->Option V
 |.v x=>some x
 |_=>none
noncomputable def An.gL:An->Option LV
 |.l x=>some x
 |_=>none
noncomputable def An.gS:An->Option (List V)
 |.s x=>some x
 |_=>none
noncomputable def An.gE:An->Option (List (V×V))
 |.e x=>some x
 |_=>none
noncomputable def An.gR:An->Option (LV×St)
 |.r x=>some x
 |_=>none
noncomputable def An.gO:An->Option (Nat×St)
 |.o x=>some x
 |_=>none
noncomputable def An.gC:An->Option (List V×St)
 |.c x=>some x
 |_=>none
noncomputable def An.gF:An->Option (Fl×X)
 |.f x=>some x
 |_=>none
def lN {α:Type}(g:An->Option α)(x:Option α)(a:List An)(f:α->List An->Prop):Prop:=match a with
 |[]=>False
 |y::t=>cond y.auto (x.elim False λv=>f v t) ((g y).elim False λv=>x=some v/\f v t)
def yl {α:Type}(g:An->Option α)(Q:α->Prop)(a:List An)(f:α->List An->Prop):Prop:=match a with
 |[]=>False
 |y::t=>(g y).elim False λv=>Q v/\f v t
def nC {α:Type}{g:An->Option α}{x:Option α}{a:List An}{f:α->List An->Prop}(h:lN g x a f):∃v t,x=some v/\f v t:=by
 cases a with
 |nil=>exact h.elim
 |cons y t=>
  unfold lN at h;dsimp only at h
  cases e:y.auto with
  |true=>
   rw [e] at h
   cases x with
   |none=>exact h.elim
   |some v=>exact ⟨v,t,rfl,h⟩
  |false=>
   rw [e] at h
   cases e2:g y with
   |none=>rw [e2] at h;exact h.elim
   |some v=>rw [e2] at h;exact ⟨v,t,h⟩
def E5 {α:Type}{g:An->Option α}{Q:α->Prop}{a:List An}{f:α->List An->Prop}(h:yl g Q a f):∃v t,Q v/\f v t:=by
 cases a with
 |nil=>exact h.elim
 |cons y t=>
  unfold yl at h;dsimp only at h
  cases e2:g y with
  |none=>rw [e2] at h;exact h.elim
  |some v=>rw [e2] at h;exact ⟨v,t,h⟩
noncomputable def Tr.ok {R:Type}:Tr R->List An->R->Prop
 |.no,_,_=>False
 |.done r,_,q=>r=q
 |.qB x k,a,q=>lN An.gB x a λv t=>(k v).ok t q
 |.qV x k,a,q=>lN An.gV x a λv t=>(k v).ok t q
 |.qL x k,a,q=>lN An.gL x a λv t=>(k v).ok t q
 |.qS x k,a,q=>lN An.gS x a λv t=>(k v).ok t q
 |.qE x k,a,q=>lN An.gE x a λv t=>(k v).ok t q
 |.qR x k,a,q=>lN An.gR x a λv t=>(k v.1 v.2).ok t q
 |.qO x k,a,q=>lN An.gO x a λv t=>(k v.1 v.2).ok t q
 |.qG b k,a,q=>lN An.gG (cond b (some ()) none) a λ_ t=>k.ok t q
 |.qC l k,a,q=>yl An.gC (λv=>∀Z,l Z=Z v.1 v.2) a λv t=>(k v.1 v.2).ok t q
 |.qF l k,a,q=>yl An.gF (λv=>∀Z,l Z=Z v.1 v.2) a λv t=>(k v.1 v.2).ok t q
def Tr.iM {R:Type}{g:R->Kt}{q:R}:∀{t:Tr R}{a:List An},t.ok a q->t.run g=g q
 |.no,a,h=>h.elim
 |.done r,a,h=>congrArg g h
 |.qG b k,a,h=>by obtain ⟨v,t,e,h'⟩:=nC h;cases b with|true=>exact iM (t:=k) h'|false=>cases e
 |.qB x k,a,h=>by obtain ⟨v,t,rfl,h'⟩:=nC h;exact iM (t:=k v) h'
 |.qV x k,a,h=>by obtain ⟨v,t,rfl,h'⟩:=nC h;exact iM (t:=k v) h'
 |.qL x k,a,h=>by obtain ⟨v,t,rfl,h'⟩:=nC h;exact iM (t:=k v) h'
 |.qS x k,a,h=>by obtain ⟨v,t,rfl,h'⟩:=nC h;exact iM (t:=k v) h'
 |.qE x k,a,h=>by obtain ⟨v,t,rfl,h'⟩:=nC h;exact iM (t:=k v) h'
 |.qR x k,a,h=>by obtain ⟨v,t,rfl,h'⟩:=nC h;exact iM (t:=k v.1 v.2) h'
 |.qO x k,a,h=>by obtain ⟨v,t,rfl,h'⟩:=nC h;exact iM (t:=k v.1 v.2) h'
 |.qC l k,a,h=>by obtain ⟨v,t,e,h'⟩:=E5 h;exact (e _).trans (iM (t:=k v.1 v.2) h')
 |.qF l k,a,h=>by obtain ⟨v,t,e,h'⟩:=E5 h;exact (e _).trans (iM (t:=k v.1 v.2) h')
noncomputable def may {R α:Type}(x:Option α)(k:α->Tr R):Tr R:=match x with
 |some a=>k a
 |none=>.no
noncomputable def dM {R:Type}(b:Bool)(k:Tr R):Tr R:=cond b k .no
section
variable(R:Type)
noncomputable abbrev cf:=Expr->X->(LV->X->Tr R)->Tr R
variable{R}
noncomputable def c_ (f:cf R)(e:Expr)(x:X)(Z:V->X->Tr R):Tr R:=f e x λlv x=>may lv.frozen λv=>Z v x
noncomputable def ql (f:cf R)(e:Expr)(x:X)(Z:LV->X->Tr R):Tr R:=match ry x e with
 |some n=>may (x.vars.lookup n) λlv=>may lv.set λlv=>Z lv x
 |none=>f e x Z
noncomputable def J8 (f:cf R)(op:CmpOp)(e:Expr)(x:X)(Z:LV->X->Tr R):Tr R:=cond (xm op) (ql f e x Z) (c_ f e x λv x=>Z (.val v) x)
noncomputable def m_ (f:cf R):List Expr->X->(List V->X->Tr R)->Tr R
 |[],x,Z=>Z [] x
 |e::S,x,Z=>c_ f e x λv x=>m_ f S x λT x=>Z (v::T) x
noncomputable def B8 (f:cf R)(e:Option Expr)(x:X)(Z:Option Int->X->Tr R):Tr R:=match e with
 |none=>Z none x
 |some e=>c_ f e x λv x=>may (c8 v) λi=>Z (some i) x
noncomputable def AX (f:cf R)(t:Bool):List Expr->X->(V->X->Tr R)->Tr R
 |[],_,_=>.no
 |[e],x,Z=>c_ f e x Z
 |e::e2::S,x,Z=>c_ f e x λv x=>.qB (k8 v) λb=>cond (same t b) (AX f t (e2::S) x Z) (Z v x)
noncomputable def ym (g:Expr->X->(Bool->X->Tr R)->Tr R)(t:Bool):List Expr->X->(Bool->X->Tr R)->Tr R
 |[],x,Z=>Z t x
 |e::S,x,Z=>g e x λb x=>cond (same t b) (ym g t S x Z) (Z b x)
noncomputable def wF (f:cf R)(e:Expr)(x:X)(Z:Bool->X->Tr R):Tr R:=c_ f e x λv x=>match v with
 |.bool b=>Z b x
 |v=>.qB (k8 v) λb=>Z b x
noncomputable def l9 (f:cf R):Nat->Expr->X->(Bool->X->Tr R)->Tr R
 |0=>λ_ _ _=>.no
 |d+1=>λe x Z=>match e with
  |.UnaryOp op y p=>match op with
   |.Not=>l9 f d y x λb x=>Z (!b) x
   |op=>wF f (.UnaryOp op y p) x Z
  |.BoolOp op S _=>ym (l9 f d) (op==.And) S x Z
  |.IfExp _ _ _ _=>.no
  |.Compare l ops rs p=>cond (ops.length==1&&rs.length==1) (wF f (.Compare l ops rs p) x Z) .no
  |e=>wF f e x Z
noncomputable def AY (f:cf R):List (Option Expr)->List Expr->List (V×V)->X->(List (V×V)->X->Tr R)->Tr R
 |[],[],acc,x,Z=>Z acc x
 |k::G,v::T,acc,x,Z=>may k λk=>c_ f k x λkv x=>c_ f v x λvv x=>.qE (gN acc kv vv) λacc=>AY f G T acc x Z
 |_,_,_,_,_=>.no
variable(call:hU) (new:km)
noncomputable def Hi (n:Str)(x:X)(Z:LV->X->Tr R):Tr R:=cond (iN (x.sc.lookup n))
 (may (x.vars.lookup n) λlv=>may lv.frozen λv=>Z (.val v) (cond lv.own (x.put n (.val v)) x))
 (may (sj x.sc n) λg=>may g.constOf λv=>Z (.val v) x)
noncomputable def CZ (f:cf R)(op:CmpOp)(a:V)(r:Expr)(x:X)(Z:LV->X->Tr R):Tr R:=J8 f op r x λb x=>.qB (aN op a (hG b x.st)) λt=>Z (.val (.bool t)) x
noncomputable def Jk (f:cf R)(fJ dJ:CmpOp)(a:V)(r1 r2:Expr)(x:X)(Z:LV->X->Tr R):Tr R:=cond (behindInMarks dJ r2) .no (c_ f r1 x λb x=>.qB (aN fJ a (.val b)) λc=>cond c (CZ f dJ b r2 x Z) (Z (.val (.bool c)) x))
noncomputable def Ii (f:cf R)(l:Expr)(ops:List CmpOp)(rs:List Expr)(x:X)(Z:LV->X->Tr R):Tr R:=c_ f l x λa x=>match ops with
  |[op]=>may (one rs) λr=>CZ f op a r x Z
  |[fJ,dJ]=>may (iW rs) λr=>Jk f fJ dJ a r.1 r.2 x Z
  |_=>.no
noncomputable def Q0 (f:cf R)(e:Expr)(lo hi:Option Expr)(x:X)(Z:LV->X->Tr R):Tr R:=c_ f e x λa x=>B8 f lo x λl x=>B8 f hi x λh x=>.qL (nX a l h) λv=>Z v x
noncomputable def Ij (f:cf R)(e i:Expr)(x:X)(Z:LV->X->Tr R):Tr R:=ql f e x λa x=>c_ f i x λk x=>.qV (cz (hG a x.st) k) λv=>Z (.val v) x
noncomputable def Ik (f:cf R)(e i:Expr)(x:X)(Z:LV->X->Tr R):Tr R:=match i with
 |.Slice lo hi st _=>match st with
  |none=>Q0 f e lo hi x Z
  |some _=>.no
 |i=>Ij f e i x Z
noncomputable def Hj (f:cf R)(e:Expr)(n:Str)(x:X)(Z:LV->X->Tr R):Tr R:=c_ f e x λa x=>may (jC x.st (.val a)) λp=>dM (je n) (may (p.2.2.lookup n) λv=>Z (.val v) x)
noncomputable def Il (f:cf R)(as:List Expr)(x:X)(Z:LV->X->Tr R):Tr R:=may (one as) λa=>ql f a x λlv x=>.qV (kW (hG lv x.st)) λv=>Z (.val v) x
noncomputable def Vg (f:cf R)(b:Bt)(as:List Expr)(x:X)(Z:LV->X->Tr R):Tr R:=cond (xI b) (Il f as x Z) (m_ f as x λT x=>.qL (blt b T) λlv=>Z lv x)
noncomputable def Gw (f:cf R)(n:Str)(as:List Expr)(x:X)(Z:LV->X->Tr R):Tr R:=may (sj x.sc n) λg=>match g with
  |.fn i=>m_ f as x λT x=>.qR (call i T x.st) λa σ=>Z a (x.at σ)
  |.cls c=>m_ f as x λT x=>.qO (new c T x.st) λa σ=>Z (.val (.obj a)) (x.at σ)
  |.blt b=>Vg f b as x Z
  |.const _=>.no
noncomputable def Gx (f:cf R)(e:Expr)(m:Str)(as:List Expr)(x:X)(Z:LV->X->Tr R):Tr R:=ql f e x λa x=>match jC x.st a with
   |some p=>dM (p.2.2.lookup m).isNone (may (nM p.2.1 m) λi=>m_ f as x λT x=>.qR (call i (.obj p.1::T) x.st) λa σ=>Z a (x.at σ))
   |none=>match s6 m as with
    |some p=>.qR (qQ a p x λlv x=>some (lv,x.st)) λa σ=>Z a (x.at σ)
    |none=>dM (AI (hG a x.st) m) (m_ f as x λT x=>.qR (jg a m T x.st) λa σ=>Z a (x.at σ))
noncomputable def Hk (f:cf R)(fn:Expr)(as:List Expr)(pos:Pos)(x:X)(Z:LV->X->Tr R):Tr R:=match fn with
 |.Name n _=>Gw call new f n as x Z
 |.Attribute e m apos=>dM (kX e&&decide (as.length<30)&&apos.endLine==pos.line) (Gx call f e m as x Z)
 |_=>.no
noncomputable def Hl (f:bp)(g:cf R)(elt tg it:Expr)(ifs:List Expr)(sc:Scope)(x:X)(Z:LV->X->Tr R):Tr R:=dM (nL sc tg x) (c_ g it x λv x=>.qS (bA v) λxs=>.qG (aY xs.length) (dM (nL sc tg x) (.qC (sZ (compTurn f tg elt ifs sc.names x.vars) xs x.st) λT σ=>Z (.ml T) (x.at σ))))
noncomputable def AZ (f:bp)(g:cf R)(elt:Expr)(gens:List Comprehension)(sc:Scope)(x:X)(Z:LV->X->Tr R):Tr R:=may (one gens) λc=>dM (c.is_async==0) (Hl f g elt c.target c.iter c.ifs sc x Z)
noncomputable def Hm (f:bp)(g:cf R)(e:Expr)(x:X)(Z:LV->X->Tr R):Tr R:=match e with
 |.Constant c _ _=>may (mj c) λv=>Z (.val v) x
 |.Name n _=>Hi n x Z
 |.BinOp l op r _=>c_ g l x λa x=>c_ g r x λb x=>.qL (fy op a b) λv=>Z v x
 |.UnaryOp op e _=>c_ g e x λv x=>.qV (yC op v) λv=>Z (.val v) x
 |.BoolOp op S _=>AX g (op==.And) S x λv x=>Z (.val v) x
 |.Compare l ops rs _=>Ii g l ops rs x Z
 |.IfExp t b o _=>l9 g 8 t x λc x=>cond c (g b x Z) (g o x Z)
 |.Subscript e i _=>Ik g e i x Z
 |.Attribute e n _=>dM (kX e) (Hj g e n x Z)
 |.Tuple S _ _=>m_ g S x λT x=>dM (aY T.length) (Z (.val (.tup T)) x)
 |.List S _=>m_ g S x λT x=>dM (aY T.length) (Z (.ml T) x)
 |.Dict G T _=>dM (decide (G.length<=15)) (AY g G T [] x λS x=>Z (.md S) x)
 |.Call fn as oA pos=>dM oA.isEmpty (Hk call new g fn as pos x Z)
 |.ListComp elt gens sc _=>AZ f g elt gens sc x Z
 |_=>.no
noncomputable def tv:Nat->cf R
 |0=>λ_ _ _=>.no
 |d+1=>Hm call new (ev call new d) (tv d)
noncomputable abbrev nk (R:Type):=Stmt->X->(Fl->X->Tr R)->Tr R
noncomputable def Fl.Jl (fl:Fl)(x:X)(go:Tr R)(Z:Fl->X->Tr R):Tr R:=match fl with
 |.next=>go
 |fl=>Z fl x
noncomputable def Fl.Im (fl:Fl)(x:X)(go:Tr R)(Z:Fl->X->Tr R):Tr R:=match fl with
 |.next=>go
 |.cont=>go
 |.brk=>.no
 |.ret v=>Z (.ret v) x
noncomputable def kL (g:nk R):List Stmt->X->(Fl->X->Tr R)->Tr R
 |[],x,Z=>Z .next x
 |s::ss,x,Z=>g s x λfl x=>fl.Jl x (kL g ss x Z) Z
noncomputable def zY (b:V->X->(Fl->X->Tr R)->Tr R):List V->X->(Fl->X->Tr R)->Tr R
 |[],x,Z=>Z .next x
 |v::T,x,Z=>b v x λfl x=>fl.Im x (zY b T x Z) Z
noncomputable def Fl.Q1 (fl:Fl)(go:Tr R):Tr R:=match fl with
 |.next=>go
 |_=>.no
noncomputable def zr (t:X->(Bool->X->Tr R)->Tr R)(b:X->(Fl->X->Tr R)->Tr R):Nat->X->(Fl->X->Tr R)->Tr R
 |0,_,_=>.no
 |n+1,x,Z=>t x λc x=>cond c (b x λfl x=>fl.Q1 (zr t b n x Z)) (Z .next x)
noncomputable def Ar (g:cf R)(n:Str)(e:Expr)(x:X)(Z:Fl->X->Tr R):Tr R:=match qU n e with
 |some e=>c_ g e x λv x=>dM (x.has n) (Z .next ((x.alloc (.list [v])).put n (.val (.obj x.st.next))))
 |none=>g e x λlv x=>dM (x.has n) (Z .next (x.put n lv))
noncomputable def O_ (g:cf R)(t e:Expr)(x:X)(Z:Fl->X->Tr R):Tr R:=c_ g e x λv x=>may (j9 t v) λbs=>dM (x.hasAll bs) (Z .next (x.h_ bs))
noncomputable def Au (g:cf R)(e:Expr)(n:Str)(r:Expr)(x:X)(Z:Fl->X->Tr R):Tr R:=match sR r with
 |some o=>c_ g e (x.alloc o) λa y=>may (jC y.st (.val a)) λp=>dM (je n) (Z .next (y.iQ p.1 (.inst p.2.1 (mQ p.2.2 n (.obj x.st.next)))))
 |none=>c_ g r x λv x=>c_ g e x λa x=>may (jC x.st (.val a)) λp=>dM (je n) (Z .next (x.iQ p.1 (.inst p.2.1 (mQ p.2.2 n v))))
noncomputable def Av (a:LV)(k v:V)(x:X)(Z:Fl->X->Tr R):Tr R:=match dictOf x.st a with
 |some p=>.qE (gN p.2 k v) λS=>Z .next (x.iQ p.1 (.dict S))
 |none=>may (listOf x.st a) λp=>may (one p.2) λ_=>may (c8 k) λi=>dM (i==0) (Z .next (x.iQ p.1 (.list [v])))
noncomputable def Sr (g:cf R)(n:Str)(i:Expr)(v:V)(x:X)(Z:Fl->X->Tr R):Tr R:=c_ g i x λk x=>may (yb x n) λp=>.qE (gN p.2 k v) λS=>Z .next (x.put n (.md S))
noncomputable def Hn (g:cf R)(e i r:Expr)(x:X)(Z:Fl->X->Tr R):Tr R:=c_ g r x λv x=>match xJ x e with
 |some p=>Sr g p.1 i v x Z
 |none=>c_ g e x λa x=>c_ g i x λk x=>Av (.val a) k v x Z
noncomputable def FK (g:cf R)(t e:Expr)(x:X)(Z:Fl->X->Tr R):Tr R:=match t with
 |.Name n _=>Ar g n e x Z
 |.Tuple S k p=>cond (t9 e) .no (O_ g (.Tuple S k p) e x Z)
 |.Attribute a n _=>Au g a n e x Z
 |.Subscript a i _=>Hn g a i e x Z
 |_=>.no
noncomputable def Io (g:cf R)(n:Str)(op:Operator)(e:Expr)(x:X)(Z:Fl->X->Tr R):Tr R:=dM (iN (x.sc.lookup n)) (may (x.vars.lookup n) λlv=>may lv.plain λa=>may (c8 a) λi=>c_ g e x λb x=>may (c8 b) λj=>may (HL op i j) λr=>dM (x.has n) (Z .next (x.put n (.val (.int r)))))
noncomputable def A0 (g:cf R)(e:Expr)(x:X)(Z:Fl->X->Tr R):Tr R:=match ownCall x e with
 |some o=>c_ g o.arg x λv x=>may (uJ x o.n) λp=>.qS (grown o.m p.2 v) λxs=>Z .next (x.put o.n (.ml xs))
 |none=>dM (!kX e) (g e x λlv x=>may lv.plain λv=>dM (v.isNone||(c8 v).isSome) (Z .next x))
noncomputable def xb (h:nk R)(tg:Expr)(b:List Stmt)(v:V)(x:X)(Z:Fl->X->Tr R):Tr R:=may (j9 tg v) λbs=>dM (x.hasAll bs) (kL h b (x.h_ bs) Z)
noncomputable def FN:Expr->Bool
 |.Tuple (.Name _ _::_) _ _=>true
 |_=>false
noncomputable def Vh (h:gj)(g:cf R)(k:nk R)(tg it:Expr)(b:List Stmt)(x:X)(Z:Fl->X->Tr R):Tr R:=c_ g it x λv x=>.qS (bA v) λxs=>cond (FN it) (zY (xb k tg b) xs x Z) (.qF (qK (oV h tg b) xs x) Z)
noncomputable def Ip (g:cf R)(e:Option Expr)(x:X)(Z:Fl->X->Tr R):Tr R:=match e with
 |none=>Z (.ret (.val .none)) x
 |some e=>ql g e x λlv x=>Z (.ret lv) x
noncomputable def Ho (h:gj)(g:cf R)(k:nk R)(s:Stmt)(x:X)(Z:Fl->X->Tr R):Tr R:=match s with
 |.Assign ts e _=>may (one ts) λt=>FK g t e x Z
 |.AugAssign t op e _=>may (nameOf t) λn=>Io g n op e x Z
 |.For tg it b o _=>dM o.isEmpty (Vh h g k tg it b x Z)
 |.While t b o _=>dM o.isEmpty (zr (l9 g 8 t) (kL k b) 16 x Z)
 |.If t b o _=>l9 g 8 t x λc x=>cond c (kL k b x Z) (kL k o x Z)
 |.Return v _=>Ip g v x Z
 |.Continue _=>Z .cont x
 |.Pass _=>Z .next x
 |.Expr e _=>A0 g e x Z
 |_=>.no
noncomputable def tx:Nat->nk R
 |0=>λ_ _ _=>.no
 |d+1=>Ho (ex call new d) (tv call new 40) (tx d)
noncomputable def Du (i:fK)(args:List V)(σ:St):Tr (LV×St):=
 may (a_ o9 i.xK) λds=>may (bindArgs i.params ds args) λbs=>kL (tx call new 12) i.body ⟨i.scope.names,putAll (qz i.scope.names) bs,σ⟩ λfl x=>match fl with
  |.ret lv=>may lv.set λlv=>.done (lv,x.st)
  |.next=>.done (.val .none,x.st)
  |_=>.no
end
section
variable{R:Type} {g:R->Kt} {α:Type}
def cg {x:Option α}{k:α->Kt}{k':α->Tr R}(h:∀a,k a=(k' a).run g):x.bind k=(may x k').run g:=by
 induction x with
 |none=>rfl
 |some a=>exact h a
def et {b:Bool}{a:Kt}{a':Tr R}(h:a=a'.run g):guard b a=(dM b a').run g:=by
 induction b with
 |false=>rfl
 |true=>exact h
def jb {b:Bool}{a c:Kt}{a' c':Tr R}(h:a=a'.run g)(k:c=c'.run g):cond b a c=(cond b a' c').run g:=by
 induction b with
 |false=>exact k
 |true=>exact h
def fo {x:Option α}{k k':α->Kt}(h:∀a,k a=k' a):x.bind k=x.bind k':=congrArg _ (funext h)
structure om (f:bp)(f':cf R)(g:R->Kt):Prop where
 go:∀{e:Expr}{x:X}{Z:LV->X->Kt}{κ':LV->X->Tr R},(∀lv x,Z lv x=(κ' lv x).run g)->f e x Z=(f' e x κ').run g
variable{f:bp} {f':cf R} {e:Expr} {x:X}
section
variable(F:om f f' g)
include F
theorem rV {Z:V->X->Kt}{κ':V->X->Tr R}(h:∀v x,Z v x=(κ' v x).run g):cB f e x Z=(c_ f' e x κ').run g:=F.go λlv x=>cg λv=>h v x
theorem rB {Z:LV->X->Kt}{κ':LV->X->Tr R}(h:∀v x,Z v x=(κ' v x).run g):kF f e x Z=(ql f' e x κ').run g:=by
 delta kF ql
 cases ry x e with
 |none=>exact F.go h
 |some n=>exact cg λlv=>cg λlv=>h lv x
theorem rC {op:CmpOp}{Z:LV->X->Kt}{κ':LV->X->Tr R}(h:∀v x,Z v x=(κ' v x).run g):p9 f op e x Z=(J8 f' op e x κ').run g:=jb (rB F h) (rV F λv x=>h _ x)
theorem qm:∀{S:List Expr}{x:X}{Z:List V->X->Kt}{κ':List V->X->Tr R},(∀v x,Z v x=(κ' v x).run g)->iv f S x Z=(m_ f' S x κ').run g:=by
 intro z_
 induction z_ with
 |nil=>intro x Z κ' h;exact h [] x
 |cons e S ak=>intro x Z κ' h;exact rV F λv x=>ak λT x=>h _ x
theorem Jm {e:Option Expr}{Z:Option Int->X->Kt}{κ':Option Int->X->Tr R}(h:∀v x,Z v x=(κ' v x).run g):xG f e x Z=(B8 f' e x κ').run g:=by
 induction e with
 |none=>exact h none x
 |some e=>exact rV F λv x=>cg λi=>h _ x
theorem Vi {t:Bool}:∀{S:List Expr}{x:X}{Z:V->X->Kt}{κ':V->X->Tr R},(∀v x,Z v x=(κ' v x).run g)->xn f t S x Z=(AX f' t S x κ').run g:=by
 intro bz
 induction bz with
 |nil=>intro aJ aU aW bf;exact rfl
 |cons bB bH ak=>
  intro aJ aU aW bf
  cases bH with
  |nil=>exact rV F bf
  |cons bS cb=>exact rV F λv aJ=>fo λb=>jb (ak bf) (bf v aJ)
theorem A5 {Z:Bool->X->Kt}{κ':Bool->X->Tr R}(h:∀v x,Z v x=(κ' v x).run g):qy f e x Z=(wF f' e x κ').run g:=rV F λv x=>by cases v<;>first|exact h _ x|exact fo λb=>h b x
end
structure Xe (p:Expr->X->(Bool->X->Kt)->Kt)(p':Expr->X->(Bool->X->Tr R)->Tr R)(g:R->Kt):Prop where
 go:∀{e:Expr}{x:X}{Z:Bool->X->Kt}{κ':Bool->X->Tr R},(∀v x,Z v x=(κ' v x).run g)->p e x Z=(p' e x κ').run g
def Dv {p:Expr->X->(Bool->X->Kt)->Kt}{p':Expr->X->(Bool->X->Tr R)->Tr R}(P:Xe p p' g){t:Bool}:
  ∀{S:List Expr}{x:X}{Z:Bool->X->Kt}{κ':Bool->X->Tr R},(∀v x,Z v x=(κ' v x).run g)->rQ p t S x Z=(ym p' t S x κ').run g
 |[],x,Z,κ',h=>h t x
 |e::S,x,Z,κ',h=>P.go λb x=>jb (Dv P h) (h b x)
def rT (F:om f f' g):∀{d:Nat}{e:Expr}{x:X}{Z:Bool->X->Kt}{κ':Bool->X->Tr R},(∀v x,Z v x=(κ' v x).run g)->ic f d e x Z=(l9 f' d e x κ').run g:=by
 intro z_
 induction z_ with
 |zero=>intro e x Z κ' h;exact rfl
 |succ d ak=>
  intro e x Z κ' h
  cases e with
  |UnaryOp op y p=>
   induction op with
   |Not=>exact ak λb x=>h (!b) x
   |_=>exact A5 F h
  |BoolOp op S p=>exact Dv (p:=ic f d) (p':=l9 f' d) ⟨λh=>ak h⟩ h
  |IfExp _ _ _ _=>rfl
  |Compare l ops rs p=>exact jb (A5 F h) rfl
  |_=>exact A5 F h
def Vj (F:om f f' g):∀{G:List (Option Expr)}{T:List Expr}{acc:List (V×V)}{x:X}{Z:List (V×V)->X->Kt}{κ':List (V×V)->X->Tr R},(∀v x,Z v x=(κ' v x).run g)->tK f G T acc x Z=(AY f' G T acc x κ').run g:=by
 intro bz
 induction bz with
 |nil=>
  intro aJ aU aW bf bB bH
  cases aJ with
  |nil=>exact bH aU aW
  |cons bU kA=>exact rfl
 |cons bS cb ak=>
  intro aJ aU aW bf bB bH
  cases aJ with
  |nil=>exact rfl
  |cons lJ kC=>exact cg λbS=>rV F λkv aW=>rV F λvv aW=>fo λaU=>ak bH
variable{call:hU} {new:km}
def Vk {n:Str}{Z:LV->X->Kt}{κ':LV->X->Tr R}(h:∀v x,Z v x=(κ' v x).run g):xo n x Z=(Hi n x κ').run g:=jb (cg λlv=>cg λv=>h _ _) (cg λgv=>cg λv=>h _ _)
section
variable(F:om f f' g)
include F
variable{Z:LV->X->Kt} {κ':LV->X->Tr R} (h:∀v x,Z v x=(κ' v x).run g)
include h
theorem Jn {op:CmpOp}{a:V}{r:Expr}{x:X}:x_ f op a r x Z=(CZ f' op a r x κ').run g:=rC F λb x=>fo λt=>h _ x
theorem Xg {fJ dJ:CmpOp}{a:V}{r1 r2:Expr}{x:X}:ya f fJ dJ a r1 r2 x Z=(Jk f' fJ dJ a r1 r2 x κ').run g:=jb rfl (rV F λb x=>fo λc=>jb (Jn F h) (h _ x))
theorem Xh {l:Expr}{ops:List CmpOp}{rs:List Expr}:Bo f l ops rs x Z=(Ii f' l ops rs x κ').run g:=rV F λa x=>by
 match ops with
 |[]=>rfl
 |[op]=>exact cg λr=>Jn F h
 |[fJ,dJ]=>exact cg λr=>Xg F h
 |_::_::_::_=>rfl
theorem Xi {i:Expr}:Bq f e i x Z=(Ik f' e i x κ').run g:=by
 have idx:Bp f e i x Z=(Ij f' e i x κ').run g:=rB F λa x=>rV F λk x=>fo λv=>h _ x
 cases i with
 |Slice lo hi st p=>
  induction st with
  |none=>exact rV F λa x=>Jm F λl x=>Jm F λhh x=>fo λv=>h v x
  |some _=>rfl
 |_=>exact idx
theorem Vl {n:Str}:AH f e n x Z=(Hj f' e n x κ').run g:=rV F λa x=>cg λp=>by
 cases je n with
 |false=>rfl
 |true=>exact cg λv=>h _ x
theorem Xj {as:List Expr}:xH f as x Z=(Il f' as x κ').run g:=cg λa=>rB F λlv x=>fo λv=>h _ x
theorem Ss {n:Str}{as:List Expr}:Ak call new f n as x Z=(Gw call new f' n as x κ').run g:=cg λgv=>by
 induction gv with
 |const v=>rfl
 |fn i=>exact qm F λT x=>fo λr=>h _ _
 |cls c=>exact qm F λT x=>fo λr=>h _ _
 |blt b=>exact jb (Xj F h) (qm F λT x=>fo λlv=>h _ x)
theorem Su {m:Str}{as:List Expr}:Al call f e m as x Z=(Gx call f' e m as x κ').run g:=rB F λa x=>by
 cases jC x.st a with
 |some p=>
  dsimp only
  cases (p.2.2.lookup m).isNone with
  |false=>rfl
  |true=>exact cg λi=>qm F λT x=>fo λr=>h _ _
 |none=>
  dsimp only
  cases s6 m as with
  |some p=>
   show qQ a p x Z=(qQ a p x λlv x=>some (lv,x.st)).bind λb=>(κ' b.1 (x.at b.2)).run g;delta qQ
   induction a.plain with
   |none=>rfl
   |some v=>
    dsimp only [Option.bind]
    cases strOf v with
    |none=>rfl
    |some s=>
     dsimp only [Option.bind]
     cases qH s p with
     |none=>rfl
     |some w=>exact h _ x
  |none=>exact et (qm F λT x=>fo λr=>h _ _)
theorem Vm {fn:Expr}{as:List Expr}{pos:Pos}:AJ call new f fn as pos x Z=(Hk call new f' fn as pos x κ').run g:=by
 cases fn with
 |Name n p=>exact Ss F h
 |Attribute e m p=>exact et (Su F h)
 |_=>rfl
theorem Vo {elt tg it:Expr}{ifs:List Expr}{sc:Scope}:xp f elt tg it ifs sc x Z=(Hl f f' elt tg it ifs sc x κ').run g:=by
 refine et (rV F λv x=>fo λxs=>?_);show guard (aY xs.length&&nL sc tg x) _=guard (aY xs.length) ((dM (nL sc tg x) _).run g)
 cases aY xs.length with
 |false=>rfl
 |true=>exact et (congrArg _ (funext λT=>funext λσ=>h _ _))
theorem Vp {elt:Expr}{gens:List Comprehension}{sc:Scope}:AK f elt gens sc x Z=(AZ f f' elt gens sc x κ').run g:=by
 delta AK AZ
 cases one gens with
 |none=>rfl
 |some c=>exact et (Vo F h)
theorem Vq:qT call new f e x Z=(Hm call new f f' e x κ').run g:=by
 cases e with
 |Constant c _ _=>exact cg λv=>h _ x
 |Name n _=>exact Vk h
 |BinOp l op r _=>exact rV F λa x=>rV F λb x=>fo λv=>h v x
 |UnaryOp op e _=>exact rV F λv x=>fo λv=>h _ x
 |BoolOp op S _=>exact Vi F λv x=>h _ x
 |Compare l ops rs _=>exact Xh F h
 |IfExp t b o _=>exact rT F (Z:=λc x=>cond c (f b x Z) (f o x Z)) (κ':=λc x=>cond c (f' b x κ') (f' o x κ')) λc x=>jb (F.go h) (F.go h)
 |Subscript e i _=>exact Xi F h
 |Attribute e n _=>exact et (Vl F h)
 |Tuple S _ _=>exact qm F λT x=>et (h _ x)
 |List S _=>exact qm F λT x=>et (h _ x)
 |Dict G T _=>exact et (Vj F λS x=>h _ x)
 |Call fn as oA pos=>exact et (Vm F h)
 |ListComp elt gens sc _=>exact Vp F h
 |_=>rfl
end
def J9:∀{d:Nat},om (ev call new d) (tv (R:=R) call new d) g:=by
 intro z_
 induction z_ with
 |zero=>exact ⟨λh=>rfl⟩
 |succ d ak=>exact ⟨λh=>Vq (ak) h⟩
structure ux (h:gj)(h':nk R)(g:R->Kt):Prop where
 go:∀{s:Stmt}{x:X}{Z:Fl->X->Kt}{κ':Fl->X->Tr R},(∀fl x,Z fl x=(κ' fl x).run g)->h s x Z=(h' s x κ').run g
def Xk {fl:Fl}{x:X}{go:Kt}{go':Tr R}{Z:Fl->X->Kt}{κ':Fl->X->Tr R}(h:∀fl x,Z fl x=(κ' fl x).run g)(k:go=go'.run g):fl.seq x go Z=(fl.Jl x go' κ').run g:=by
 induction fl with
 |next=>exact k
 |_=>exact h _ x
def Vr {fl:Fl}{x:X}{go:Kt}{go':Tr R}{Z:Fl->X->Kt}{κ':Fl->X->Tr R}(h:∀fl x,Z fl x=(κ' fl x).run g)(k:go=go'.run g):fl.turn x go Z=(fl.Im x go' κ').run g:=by
 induction fl with
 |next=>exact k
 |cont=>exact k
 |brk=>rfl
 |ret v=>exact h _ x
def qo {h:gj}{h':nk R}(bw:ux h h' g):∀{ss:List Stmt}{x:X}{Z:Fl->X->Kt}{κ':Fl->X->Tr R},(∀fl x,Z fl x=(κ' fl x).run g)->fg h ss x Z=(kL h' ss x κ').run g:=by
 intro z_
 induction z_ with
 |nil=>intro x Z κ' k;exact k _ x
 |cons s ss ak=>intro x Z κ' k;exact bw.go λfl x=>Xk k (ak k)
def FP {b:V->X->(Fl->X->Kt)->Kt}{b':V->X->(Fl->X->Tr R)->Tr R}(B:∀v x Z κ',(∀fl x,Z fl x=(κ' fl x).run g)->b v x Z=(b' v x κ').run g):
  ∀{T:List V}{x:X}{Z:Fl->X->Kt}{κ':Fl->X->Tr R},(∀fl x,Z fl x=(κ' fl x).run g)->qK b T x Z=(zY b' T x κ').run g
 |[],x,Z,κ',k=>k _ x
 |v::T,x,Z,κ',k=>B v x _ _ λfl x=>Vr k (FP B k)
def EC {t:X->(Bool->X->Kt)->Kt}{t':X->(Bool->X->Tr R)->Tr R}{b:X->(Fl->X->Kt)->Kt}{b':X->(Fl->X->Tr R)->Tr R}(au:∀x Z κ',(∀c x,Z c x=(κ' c x).run g)->t x Z=(t' x κ').run g)
  (B:∀x Z κ',(∀fl x,Z fl x=(κ' fl x).run g)->b x Z=(b' x κ').run g):
  ∀{n:Nat}{x:X}{Z:Fl->X->Kt}{κ':Fl->X->Tr R},(∀fl x,Z fl x=(κ' fl x).run g)->sQ t b n x Z=(zr t' b' n x κ').run g
 |0,x,Z,κ',k=>rfl
 |n+1,x,Z,κ',k=>au x _ _ λc x=>jb (B x _ _ λfl x=>by
   induction fl with
   |next=>exact EC au B k
   |_=>rfl) (k _ x)
section
variable(F:om f f' g)
include F
variable{Z:Fl->X->Kt} {κ':Fl->X->Tr R} (k:∀fl x,Z fl x=(κ' fl x).run g)
include k
theorem Pa {n:Str}:tq f n e x Z=(Ar f' n e x κ').run g:=by
 delta tq Ar
 cases qU n e with
 |some e=>exact rV F λv x=>et (k _ _)
 |none=>exact F.go λlv x=>et (k _ _)
theorem Pb {n:Str}{r:Expr}:tu f e n r x Z=(Au f' e n r x κ').run g:=by
 delta tu Au
 cases sR r with
 |some o=>exact rV F λa y=>cg λp=>et (k _ _)
 |none=>exact rV F λv x=>rV F λa x=>cg λp=>et (k _ _)
theorem Vs {a:LV}{j v:V}:tw a j v x Z=(Av a j v x κ').run g:=by
 delta tw Av
 cases dictOf x.st a with
 |some p=>exact fo λS=>k _ _
 |none=>exact cg λp=>cg λ_=>cg λi=>et (k _ _)
theorem Q2 {i r:Expr}:AL f e i r x Z=(Hn f' e i r x κ').run g:=rV F λv x=>by
 cases xJ x e with
 |some p=>exact rV F λj x=>cg λp=>fo λS=>k _ _
 |none=>exact rV F λa x=>rV F λj x=>Vs F k
theorem Q3 {t:Expr}:zN f t e x Z=(FK f' t e x κ').run g:=by
 cases t with
 |Name n _=>exact Pa F k
 |Tuple S j p=>exact jb rfl (rV F λv x=>cg λbs=>et (k _ _))
 |Attribute a n _=>exact Pb F k
 |Subscript a i _=>exact Q2 F k
 |_=>rfl
theorem Xl {n:Str}{op:Operator}:Br f n op e x Z=(Io f' n op e x κ').run g:=et (cg λlv=>cg λa=>cg λi=>rV F λb x=>cg λj=>cg λr=>et (k _ _))
theorem Vt:tL f e x Z=(A0 f' e x κ').run g:=by
 delta tL A0
 cases ownCall x e with
 |some o=>exact rV F λv x=>cg λp=>fo λxs=>k _ _
 |none=>exact et (F.go λlv x=>cg λv=>et (k _ _))
theorem Xm {o:Option Expr}:Bu f o x Z=(Ip f' o x κ').run g:=by
 induction o with
 |none=>exact k _ x
 |some e=>exact rB F λlv x=>k _ x
end
def Q4 {h:gj}{h':nk R}(F:om f f' g)(bw:ux h h' g):ux (AM f h) (Ho h f' h') g:=⟨λ{s x Z κ'} k=>by
 cases s with
 |Assign ts e _=>exact cg λt=>Q3 F k
 |AugAssign t op e _=>exact cg λn=>Xl F k
 |For tg it b o _=>
  refine et (rV F λv x=>fo λxs=>?_)
  cases FN it with
  |false=>exact congrArg _ (funext λfl=>funext λx=>k fl x)
  |true=>exact FP (b:=oV h tg b) (b':=xb h' tg b) (λv x Z κ' k=>cg λbs=>et (qo bw k)) k
 |While t b o _=>exact et (EC (t:=ic f 8 t) (t':=l9 f' 8 t) (b:=fg h b) (b':=kL h' b) (λx Z κ' k=>rT F k) (λx Z κ' k=>qo bw k) k)
 |If t b o _=>exact rT F (Z:=λc x=>cond c (fg h b x Z) (fg h o x Z)) (κ':=λc x=>cond c (kL h' b x κ') (kL h' o x κ')) λc x=>jb (qo bw k) (qo bw k)
 |Return v _=>exact Xm F k
 |Continue _=>exact k _ x
 |Pass _=>exact k _ x
 |Expr e _=>exact Vt F k
 |_=>rfl⟩
def Dw:∀{d:Nat},ux (ex call new d) (tx (R:=R) call new d) g:=by
 intro z_
 induction z_ with
 |zero=>exact ⟨λk=>rfl⟩
 |succ d ak=>exact Q4 (J9) (ak)
def YH {i:fK}{args:List V}{σ:St}:Bv call new i args σ=(Du call new i args σ).run some:=
 cg λds=>cg λbs=>qo (Dw (d:=12)) λfl x=>by
  induction fl with
  |ret lv=>exact cg λlv=>rfl
  |next=>rfl
  |_=>rfl
def Pc {n:Nat}{i:Nat×Nat}{f:fK}(hf:jn i=some f){args:List V}{σ:St}{a:List An}{r:LV×St}(h:(Du (ae n) (f_ (ae n)) f args σ).ok a r):ae (n+1) i args σ=some r:=by show(jn i).bind _=_;exact hf.symm▸(YH.trans (Tr.iM h))
end
noncomputable abbrev sv {α:Type}(v:V)(s:α):Option (LV×α):=some (.val v,s)
noncomputable def Hp (n:Nat)(i:Nat×Nat)(args:List V)(σ:St):Tr (LV×St):=match jn i with
 |some f=>Du (ae n) (f_ (ae n)) f args σ
 |none=>.no
def vg (n:Nat)(i:Nat×Nat)(args:List V)(σ:St)(a:List An)(r:LV×St):Prop:=(Hp n i args σ).ok a r
def B9 {n:Nat}{i:Nat×Nat}{args:List V}{σ:St}{a:List An}{r:LV×St}(h:vg n i args σ a r):ae (n+1) i args σ=some r:=by
 delta vg Hp at h;generalize hf:jn i=z_;induction z_ with
 |none=>replace h:=hf▸h;exact h.elim
 |some f=>rw [hf] at h;exact Pc hf h
def tS {n:Nat}{i:Nat×Nat}{args:List V}{σ:St}{r:LV×St}(a:List An){A:Prop}(e:vg n i args σ a r=A)(h:A):ae (n+1) i args σ=some r:=B9 (e▸h)
structure As where
 an:List An
 need:Prop->Prop
 ok:∀{A},A->need A
noncomputable def As.z (k:Nat):As:=⟨List.replicate k .z,λA=>A,λh=>h⟩
noncomputable def As.b {x:Option Bool}{y:Bool}(p:x=some y):As:=⟨[.b y],(x=some y/\·),λh=>⟨p,h⟩⟩
noncomputable def As.v {x:Option V}{y:V}(p:x=some y):As:=⟨[.v y],(x=some y/\·),λh=>⟨p,h⟩⟩
noncomputable def As.l {x:Option LV}{y:LV}(p:x=some y):As:=⟨[.l y],(x=some y/\·),λh=>⟨p,h⟩⟩
noncomputable def As.s {x:Option (List V)}{y:List V}(p:x=some y):As:=⟨[.s y],(x=some y/\·),λh=>⟨p,h⟩⟩
noncomputable def As.e {x:Option (List (V×V))}{y:List (V×V)}(p:x=some y):As:=⟨[.e y],(x=some y/\·),λh=>⟨p,h⟩⟩
noncomputable def As.r {x:Kt}{y:LV×St}(p:x=some y):As:=⟨[.r y],(x=some y/\·),λh=>⟨p,h⟩⟩
noncomputable def As.o {x:Option (Nat×St)}{y:Nat×St}(p:x=some y):As:=⟨[.o y],(x=some y/\·),λh=>⟨p,h⟩⟩
noncomputable def As.g {x:Option Unit}(p:x=some ()):As:=⟨[.g],(x=some ()/\·),λh=>⟨p,h⟩⟩
noncomputable def As.c {l:(List V->St->Kt)->Kt}{T:List V}{σ:St}(p:∀Z,l Z=Z T σ):As:=⟨[.c (T,σ)],((∀Z,l Z=Z T σ)/\·),λh=>⟨p,h⟩⟩
noncomputable def As.f {l:(Fl->X->Kt)->Kt}{fl:Fl}{x:X}(p:∀Z,l Z=Z fl x):As:=⟨[.f (fl,x)],((∀Z,l Z=Z fl x)/\·),λh=>⟨p,h⟩⟩
noncomputable def rF:List As->List An:=List.flatMap As.an
def uy (A:Prop)(l:List As):Prop:=l.foldr As.need A
def wM {A:Prop}(h:A)(l:List As):uy A l:=by
 induction l with
 |nil=>exact h
 |cons a l ih=>exact a.ok ih
def aa {n:Nat}{i:Nat×Nat}{args:List V}{σ:St}{r:LV×St}(l:List As)(e:vg n i args σ (rF l) r=uy (r=r) l:=by kernel_rfl):ae (n+1) i args σ=some r:=B9 (e▸wM rfl l)
structure Sh where
 decls:List V
 bounds:List V
 defaults:List V
 names:List V
 rest:List (Nat×O)
 next:Nat
noncomputable def Iq:List (Str×V):=[(.ofString "rows",.obj 1),(.ofString "index",.obj 2),(.ofString "decls",.obj 3),(.ofString "bounds",.obj 4),(.ofString "defaults",.obj 5),(.ofString "names",.obj 6),(.ofString "origins",.obj 7),(.ofString "renamed",.obj 8),(.ofString "shaping",.int 0)]
noncomputable def Sv:List (Str×V):=[(.ofString "tab",.obj 0),(.ofString "deep",.int 0),(.ofString "most_rounds",.int 200),(.ofString "most_deep",.int 40),(.ofString "instances",.obj 10),(.ofString "lib",.none)]
noncomputable def cQ:Nat->List V->List (V×V)
 |_,[]=>[]
 |k,r::rs=>(r,.int k)::cQ (k+1) rs
noncomputable def Dx (rows:List V)(S:List (V×V))(d:Sh):St:=⟨(0,.inst "TypeTable" Iq)::(1,.list rows)::(2,.dict S)::(3,.list d.decls)::(4,.list d.bounds)::(5,.list d.defaults)::(6,.list d.names)::(7,.dict [])::(8,.dict [])::
 (9,.inst "KeyHost" Sv)::(10,.dict [])::d.rest,d.next⟩
noncomputable abbrev mk (rows:List V)(d:Sh):St:=Dx rows (cQ 0 rows) d
noncomputable def zC:List V:=match ai "FIRST_ROWS" with
 |some (.const (.tup rs))=>rs
 |_=>[]
structure Tb (rows:List V):Prop where
 pre:zC<+:rows
 key:∀r∈rows,∃ds,r.toD=some (.tup ds)
 one:∀(i j:Nat)(ri rj:V),rows[i]?=some ri->rows[j]?=some rj->ri.toD=rj.toD->i=j
 len:rows.length<=1000000
def FQ {d:D}:∀{rows:List V}{k:Nat},(∀r∈rows,∃ds,r.toD=some (.tup ds))->
  (dm d (cQ k rows)=none/\∀r∈rows,r.toD≠some d)\/∃i r,dm d (cQ k rows)=some (.int ((k+i:Nat):Int))/\rows[i]?=some r/\r.toD=some d:=by
 intro z_
 induction z_ with
 |nil=>intro k h;exact .inl ⟨rfl,λ_ h=>cj h⟩
 |cons r rs ak=>
  intro k h;refine aM (h r mS) λds hd=>?_;show(dm d ((r,V.int k)::cQ (k+1) rs)=none/\_)\/∃i r',dm d ((r,V.int k)::cQ (k+1) rs)=_/\_;unfold dm;refine hd.symm▸?_;dsimp only [Option.bind];generalize e:D.beq (.tup ds) d=z_;induction z_ with
  |true=>have e:=D.beq_iff.mp e;exact .inr (aD 0 r rfl rfl (e▸hd))
  |false=>
   refine (ak (k:=k+1) λr' hr=>h r' (aT _ hr)).elim (λdK=>ay dK λa b=>?_) (λdn=>aw dn λi r' a b c=>?_)
   ·refine .inl ⟨a,λr' hr=>?_⟩;rcases mE hr with rfl|hr
    ·refine hd.symm▸?_;intro q;obtain rfl:=oj q;rw [D.zP] at e;exact nomatch e
    ·exact b r' hr
   ·exact .inr (aD (i+1) r' (by refine (Nat.add_right_comm k 1 i).symm.symm▸?_;exact a) b c)
def NL (rows:List V)(r:V):∀k,cQ k (rows++[r])=cQ k rows++[(r,.int ((k+rows.length:Nat):Int))]:=by
 induction rows with
 |nil=>intro k;rfl
 |cons x xs ih=>intro k;show(x,V.int k)::cQ (k+1) (xs++[r])=_;rw [ih,List.length_cons,(Nat.add_right_comm k 1 xs.length:k+1+xs.length=k+(xs.length+1))];rfl
def Tb.ne {rows:List V}(au:Tb rows):rows≠[]:=by
 refine aM au.pre λt e=>?_;intro h;rw [h] at e;have:zC.length=16:=by kernel_rfl
 have M:=congrArg List.length e;rw [List.length_append,this] at M;exact absurd M (λe=>Ci ((Nat.add_comm 16 t.length).symm.trans e))
def Tb.first {rows:List V}(au:Tb rows){k:Nat}{ds:List D}:eo (cQ k rows) (.tup ds)=true:=by
 induction rows with
 |nil=>rfl
 |cons r rs=>refine aM (au.key r mS) λS h=>?_;show(match r.toD with|some k=>alike k (.tup ds)|none=>false)=true;refine h.symm▸?_;rfl
def NM {d:D}{k v:V}:∀{S:List (V×V)},(∀e∈S,∃j,e.1.toD=some j/\D.beq j d=false)->hF d k v S=S++[(k,v)]:=by
 intro z_
 induction z_ with
 |nil=>intro _;exact rfl
 |cons e S ak=>intro h;refine aq (h e mS) λj H M=>?_;unfold hF;rw [H];dsimp only;exact M.symm▸(congrArg (e::·) (ak λe he=>h e (aT _ he)))
def Hq {rows:List V}:∀{k:Nat}{e:V×V},e∈cQ k rows->e.1∈rows:=by
 induction rows with
 |nil=>intro k e h;nomatch h
 |cons r rs ih=>
  intro k e h;rcases mE h with rfl|h
  ·exact mS
  ·exact aT _ (ih h)
def NN {rows:List V}:∀{k:Nat},(cQ k rows).length=rows.length:=by
 induction rows with
 |nil=>intro k;rfl
 |cons r rs ih=>intro k;exact congrArg (·+1) ih
def dy {n:Nat}(h:n<=1048576):aY n=true:=Nat.ble_eq_true_of_le h
def Pd {n:Nat}{rows:List V}{d:Sh}{r:V}{ds:List D}(au:Tb rows)(hr:r.toD=some (.tup ds))(room:rows.length<1000000):
  (∃(i:Nat) (r':V),rows[i]?=some r'/\r'.toD=r.toD/\ae (n+1) (64,3) [.obj 0,r] (mk rows d)=sv (.int i) (mk rows d))\/(∀x∈rows,x.toD≠r.toD)/\ae (n+1) (64,3) [.obj 0,r] (mk rows d)=sv (.int rows.length) (mk (rows++[r]) d):=by
 have hg:∀o,dm (.tup ds) (cQ 0 rows)=o->dh (cQ 0 rows) r=some o:=λo ho=>by delta dh;refine hr.symm▸?_;show guard (eo (cQ 0 rows) (.tup ds)) _=_;refine au.first.symm▸ho.symm▸?_;rfl
 refine (FQ (d:=.tup ds) (k:=0) au.key).elim (λm5=>ay m5 λh hn=>?_) (λjt=>aw jt λi r' h H M=>?_)
 ·have hp:gN (cQ 0 rows) r (.int rows.length)=some (cQ 0 (rows++[r])):=by
   delta gN;refine hr.symm▸?_;show guard (aY (cQ 0 rows).length&&eo (cQ 0 rows) (.tup ds)) _=_;rw [NN,(dy (nT au.len (nl rfl))),au.first,NM λe he=>?_,NL,Nat.zero_add]
   ·rfl
   ·refine aM (au.key _ (Hq he)) λS hk=>af _ hk (D.AN λq=>hn _ (Hq he) (q▸hk))
  refine .inr ⟨λx Y q=>hn x Y (q.trans hr),tS [.b false,.v (.int rows.length),.r (.val .none,Dx (rows++[r]) (cQ 0 rows) d),.e (cQ 0 (rows++[r]))]
   (A:=aN .In r (.md (cQ 0 rows))=some false/\kW (.ml rows)=some (.int rows.length)/\jg (.val (.obj 1)) "append" [r] (mk rows d)=sv .none (Dx (rows++[r]) (cQ 0 rows) d)/\gN (cQ 0 rows) r (.int rows.length)=some (cQ 0 (rows++[r]))/\(LV.val (.int rows.length),mk (rows++[r]) d)=(LV.val (.int rows.length),mk (rows++[r]) d))
   (by kernel_rfl) (x6 ?_ ?_ ?_ hp rfl)⟩
  ·show(dh (cQ 0 rows) r).map Option.isSome=_;rw [hg _ h];rfl
  ·delta kW IU;show guard (aY rows.length) _=_;refine (dy (nT au.len (nl rfl)):aY rows.length=true).symm▸?_;rfl
  ·show nK (mk rows d) 1 rows "append" [r]=_;show guard (_==eL&&aY rows.length) _=_;refine (dy (nT au.len (nl rfl)):aY rows.length=true).symm▸?_;rfl
 ·refine .inl (aD i r' H (M.trans hr.symm) (tS [.b true,.v (.int i)] (A:=aN .In r (.md (cQ 0 rows))=some true/\cz (.md (cQ 0 rows)) r=some (.int i)/\(LV.val (.int i),mk rows d)=(LV.val (.int i),mk rows d)) (by kernel_rfl) (bx ?_ ?_ rfl)))
  ·show(dh (cQ 0 rows) r).map Option.isSome=_;rw [hg _ h];rfl
  ·show(dh (cQ 0 rows) r).bind id=_;rw [hg _ h,Nat.zero_add];rfl
noncomputable def uz:Nat->List Stmt->List (Expr×List Stmt)
 |0,_=>[]
 |d+1,ss=>ss.flatMap λs=>match s with
  |.For tg _ b _ _=>(tg,b)::uz d b
  |.If _ b o _=>uz d b++uz d o
  |.While _ b _ _=>uz d b
  |_=>[]
noncomputable def gy (i:Nat×Nat)(k:Nat):Option (Expr×List Stmt):=(jn i).bind λf=>(uz 6 f.body)[k]?
noncomputable abbrev CompI:=Expr×List Comprehension×Scope
noncomputable def ed:Nat->Expr->List CompI
 |0,_=>[]
 |d+1,e=>match e with
  |.ListComp elt gens sc _=>(elt,gens,sc)::(gens.flatMap λg=>ed d g.iter)++ed d elt
  |.Call f as _ _=>ed d f++as.flatMap (ed d)
  |.BinOp l _ r _=>ed d l++ed d r
  |.UnaryOp _ e _=>ed d e
  |.BoolOp _ S _=>S.flatMap (ed d)
  |.Compare l _ rs _=>ed d l++rs.flatMap (ed d)
  |.IfExp t b o _=>ed d t++ed d b++ed d o
  |.Subscript e i _=>ed d e++ed d i
  |.Attribute e _ _=>ed d e
  |.Tuple S _ _=>S.flatMap (ed d)
  |.List S _=>S.flatMap (ed d)
  |_=>[]
noncomputable def tT:Nat->List Stmt->List CompI
 |0,_=>[]
 |d+1,ss=>ss.flatMap λs=>match s with
  |.Assign _ e _=>ed 8 e
  |.AugAssign _ _ e _=>ed 8 e
  |.Return (some e) _=>ed 8 e
  |.Expr e _=>ed 8 e
  |.If t b o _=>ed 8 t++tT d b++tT d o
  |.For _ it b _ _=>ed 8 it++tT d b
  |.While t b _ _=>ed 8 t++tT d b
  |_=>[]
noncomputable def o7 (i:Nat×Nat)(k:Nat):Option CompI:=(jn i).bind λf=>(tT 6 f.body)[k]?
section
variable(n d:Nat) (i:Nat×Nat) (k:Nat)
noncomputable def aZ (v:V)(x:X):(Fl->X->Kt)->Kt:=match gy i k with
 |some f=>oV (ex (ae n) (f_ (ae n)) d) f.1 f.2 v x
 |none=>λ_=>none
noncomputable def cF (xs:List V)(x:X):(Fl->X->Kt)->Kt:=match gy i k with
 |some f=>qK (oV (ex (ae n) (f_ (ae n)) d) f.1 f.2) xs x
 |none=>λ_=>none
noncomputable def Ir (v:V)(x:X):Tr (Fl×X):=match gy i k with
 |some f=>xb (tx (R:=Fl×X) (ae n) (f_ (ae n)) d) f.1 f.2 v x λfl x=>.done (fl,x)
 |none=>.no
def A6 (v:V)(x:X)(a:List An)(r:Fl×X):Prop:=(Ir n d i k v x).ok a r
noncomputable def It {R:Type}(f:cf R)(tg elt:Expr)(ifs:List Expr)(names:List (Str×NameKind))(vars:bL)(v:V)(σ:St)(Z:Option V->St->Tr R):Tr R:=may (j9 tg v) λbs=>ym (l9 f 8) true ifs ((jD names tg vars σ).h_ bs) λb x=>cond b (c_ f elt x λw x=>Z (some w) x.st) (Z none x.st)
noncomputable def fz (vars:bL)(v:V)(σ:St):(Option V->St->Kt)->Kt:=match o7 i k with
 |some (elt,[g],sc)=>compTurn (ev (ae n) (f_ (ae n)) d) g.target elt g.ifs sc.names vars v σ
 |_=>λ_=>none
noncomputable def eN (vars:bL)(xs:List V)(σ:St):(List V->St->Kt)->Kt:=match o7 i k with
 |some (elt,[g],sc)=>sZ (compTurn (ev (ae n) (f_ (ae n)) d) g.target elt g.ifs sc.names vars) xs σ
 |_=>λ_=>none
noncomputable def Iu (vars:bL)(v:V)(σ:St):Tr (Option V×St):=match o7 i k with
 |some (elt,[g],sc)=>It (tv (R:=Option V×St) (ae n) (f_ (ae n)) d) g.target elt g.ifs sc.names vars v σ λo σ=>.done (o,σ)
 |_=>.no
def A7 (vars:bL)(v:V)(σ:St)(a:List An)(r:Option V×St):Prop:=(Iu n d i k vars v σ).ok a r
def Vu {R:Type}{g:R->Kt}{h:gj}{h':nk R}(bw:ux h h' g){tg:Expr}{b:List Stmt}{v:V}{x:X}{Z:Fl->X->Kt}{κ':Fl->X->Tr R}(k:∀fl x,Z fl x=(κ' fl x).run g):oV h tg b v x Z=(xb h' tg b v x κ').run g:=cg λbs=>et (qo bw k)
def Sw {R:Type}{g:R->Kt}{f:bp}{f':cf R}(F:om f f' g){tg elt:Expr}{ifs:List Expr}{names:List (Str×NameKind)}{vars:bL}{v:V}{σ:St}{Z:Option V->St->Kt}{κ':Option V->St->Tr R}(h:∀o σ,Z o σ=(κ' o σ).run g):
  compTurn f tg elt ifs names vars v σ Z=(It f' tg elt ifs names vars v σ κ').run g:=cg λbs=>Dv (p:=ic f 8) (p':=l9 f' 8) ⟨λh=>rT F h⟩ λb x=>jb (rV F λw x=>h _ _) (h _ _)
variable{n d i k}
def Pe {v:V}{x:X}{fl:Fl}{x':X}(a:List An){A:Prop}(e:A6 n d i k v x a (fl,x')=A)(h:A):∀Z,aZ n d i k v x Z=Z fl x':=λZ=>by
 have h:=e▸h;unfold A6 Ir at h;delta aZ;generalize hf:gy i k=z_;induction z_ with
 |none=>replace h:=hf▸h;exact h.elim
 |some f=>rw [hf] at h;exact (Vu Dw (κ':=λfl x=>.done (fl,x)) (g:=λp:Fl×X=>Z p.1 p.2) λfl x=>rfl).trans (Tr.iM h)
def aX {v:V}{x:X}{fl:Fl}{x':X}(l:List As)(e:A6 n d i k v x (rF l) (fl,x')=uy ((fl,x')=(fl,x')) l:=by kernel_rfl):∀Z,aZ n d i k v x Z=Z fl x':=Pe (rF l) e (wM rfl l)
def dk (hf:(gy i k).isSome=true){x:X}:∀Z,cF n d i k [] x Z=Z .next x:=λZ=>by
 delta cF;generalize h:gy i k=z_;induction z_ with
 |none=>replace hf:=h▸hf;exact aS hf
 |some f=>rfl
def cD {v:V}{T:List V}{x x₁ bF:X}{fl:Fl}(h:∀Z,aZ n d i k v x Z=Z .next x₁)(h':∀Z,cF n d i k T x₁ Z=Z fl bF):∀Z,cF n d i k (v::T) x Z=Z fl bF:=λZ=>by
 delta cF aZ at*;generalize hf:gy i k=z_;induction z_ with
 |none=>replace h':=hf▸h';exact h' Z
 |some f=>rw [hf] at h h';exact (h _).trans (h' Z)
def zD {v:V}{T:List V}{x x₁ bF:X}{fl:Fl}(h:∀Z,aZ n d i k v x Z=Z .cont x₁)(h':∀Z,cF n d i k T x₁ Z=Z fl bF):∀Z,cF n d i k (v::T) x Z=Z fl bF:=λZ=>by
 delta cF aZ at*;generalize hf:gy i k=z_;induction z_ with
 |none=>replace h':=hf▸h';exact h' Z
 |some f=>rw [hf] at h h';exact (h _).trans (h' Z)
def j0 {v:V}{T:List V}{x x₁:X}{lv:LV}(hf:(gy i k).isSome=true)(h:∀Z,aZ n d i k v x Z=Z (.ret lv) x₁):∀Z,cF n d i k (v::T) x Z=Z (.ret lv) x₁:=λZ=>by
 delta cF aZ at*;generalize q:gy i k=z_;induction z_ with
 |none=>replace hf:=q▸hf;exact aS hf
 |some f=>rw [q] at h;exact h _
def Pf {vars:bL}{v:V}{σ σ':St}{o:Option V}(a:List An){A:Prop}(e:A7 n d i k vars v σ a (o,σ')=A)(h:A):∀Z,fz n d i k vars v σ Z=Z o σ':=λZ=>by
 have h:=e▸h;unfold A7 Iu at h;delta fz
 match hf:o7 i k with
 |some (elt,[g],sc)=>rw [hf] at h;exact (Sw J9 (κ':=λo σ=>.done (o,σ)) (g:=λp:Option V×St=>Z p.1 p.2) λo σ=>rfl).trans (Tr.iM h)
 |none=>replace h:=hf▸h;exact h.elim
 |some (_,[],_)=>replace h:=hf▸h;exact h.elim
 |some (_,_::_::_,_)=>rw [hf] at h;exact h.elim
def ew {vars:bL}{v:V}{σ σ':St}{o:Option V}(l:List As)(e:A7 n d i k vars v σ (rF l) (o,σ')=uy ((o,σ')=(o,σ')) l:=by kernel_rfl):∀Z,fz n d i k vars v σ Z=Z o σ':=Pf (rF l) e (wM rfl l)
noncomputable def oZ (i:Nat×Nat)(k:Nat):Bool:=match o7 i k with
 |some (_,[_],_)=>true
 |_=>false
def jc (hf:oZ i k=true){vars:bL}{σ:St}:∀Z,eN n d i k vars [] σ Z=Z [] σ:=λZ=>by
 delta oZ at hf;delta eN
 match h:o7 i k with
 |some (elt,[g],sc)=>rfl
 |none=>replace hf:=h▸hf;exact aS hf
 |some (_,[],_)=>replace hf:=h▸hf;exact aS hf
 |some (_,_::_::_,_)=>replace hf:=h▸hf;exact aS hf
def fY {vars:bL}{v:V}{T ws:List V}{o:Option V}{σ gb px:St}(h:∀Z,fz n d i k vars v σ Z=Z o gb)(h':∀Z,eN n d i k vars T gb Z=Z ws px):∀Z,eN n d i k vars (v::T) σ Z=Z (o.toList++ws) px:=λZ=>by
 delta eN fz at*
 match hf:o7 i k with
 |some (elt,[g],sc)=>rw [hf] at h h';exact (h _).trans (h' _)
 |none=>replace h':=hf▸h';exact h' λws=>Z (o.toList++ws)
 |some (_,[],_)=>replace h':=hf▸h';exact h' λws=>Z (o.toList++ws)
 |some (_,_::_::_,_)=>replace h':=hf▸h';exact h' λws=>Z (o.toList++ws)
end
noncomputable def ez (i:Nat×Nat):List (Str×NameKind):=match jn i with
 |some f=>f.scope.names
 |none=>[]
noncomputable abbrev I (t:Nat):V:=.int (t:Int)
structure Pr where
 name:Str
 t:Nat
 flags:Nat
 src:Nat
set_option genCtorIdx true in
set_option genInjectivity true in
inductive Row where
 |key (s:Str)
 |bool (b f:Nat)
 |str (s:Str) (f:Nat)
 |num (n f:Nat)
 |union (U:List Nat)
 |inter (U:List Nat)
 |obj (U:List Pr) (s n:Option (Nat×Nat))
 |ref (d:Nat)
 |param (p:Nat)
 |arr (t ro:Nat)
 |tup (S:List (Nat×Nat)) (ro:Nat)
 |jj (t:Nat)
 |index (t i:Nat)
noncomputable def pv (p:Pr):V:=.tup [.str p.name,I p.t,I p.flags,I p.src]
noncomputable def cv:Option (Nat×Nat)->V
 |none=>.tup []
 |some c=>.tup [I c.1,I c.2]
noncomputable def rl:Row->List V
 |.key s=>[.int 1,.str s]
 |.bool b f=>[.int 2,I b,I f]
 |.str s f=>[.int 3,.str s,I f]
 |.num n f=>[.int 4,I n,I f]
 |.union U=>[.int 6,.tup (U.map I)]
 |.inter U=>[.int 7,.tup (U.map I)]
 |.obj U s n=>[.int 8,.tup (U.map pv),.tup [],.tup [],cv s,cv n,.int 0]
 |.ref d=>[.int 9,I d,.tup []]
 |.param p=>[.int 10,I p]
 |.arr t ro=>[.int 11,I t,I ro]
 |.tup S ro=>[.int 12,.tup (S.map λe=>.tup [I e.1,I e.2]),I ro]
 |.jj t=>[.int 14,I t]
 |.index t i=>[.int 15,I t,I i]
noncomputable def rv (k:Row):V:=.tup (rl k)
noncomputable abbrev cy (t:Nat):D:=.int (t:Int)
noncomputable def cd:Option (Nat×Nat)->D
 |none=>.tup []
 |some c=>.tup [cy c.1,cy c.2]
noncomputable def gu:Row->List D
 |.key s=>[.int 1,.str s]
 |.bool b f=>[.int 2,cy b,cy f]
 |.str s f=>[.int 3,.str s,cy f]
 |.num n f=>[.int 4,cy n,cy f]
 |.union U=>[.int 6,.tup (U.map cy)]
 |.inter U=>[.int 7,.tup (U.map cy)]
 |.obj U s n=>[.int 8,.tup (U.map λp=>.tup [.str p.name,cy p.t,cy p.flags,cy p.src]),.tup [],.tup [],cd s,cd n,.int 0]
 |.ref d=>[.int 9,cy d,.tup []]
 |.param p=>[.int 10,cy p]
 |.arr t ro=>[.int 11,cy t,cy ro]
 |.tup S ro=>[.int 12,.tup (S.map λe=>.tup [cy e.1,cy e.2]),cy ro]
 |.jj t=>[.int 14,cy t]
 |.index t i=>[.int 15,cy t,cy i]
noncomputable def iZ:Row->Bool
 |.key s=>PyData.strOk s
 |.str s _=>PyData.strOk s
 |.obj U _ _=>U.all λp=>PyData.strOk p.name
 |_=>true
def FR {α β γ:Type}{f:β->Option γ}{g:α->β}{h:α->γ}(e:∀a,f (g a)=some (h a)):∀l:List α,a_ f (l.map g)=some (l.map h):=by
 intro bz
 induction bz with
 |nil=>exact rfl
 |cons aJ aU ak=>show(f (g aJ)).bind _=_;rw [e];show(a_ f (aU.map g)).bind _=_;rw [ak];rfl
def NO {α β γ:Type}{f:β->Option γ}{g:α->β}{h:α->γ}:∀l:List α,(∀a∈l,f (g a)=some (h a))->a_ f (l.map g)=some (l.map h):=by
 intro bz
 induction bz with
 |nil=>intro aJ;exact rfl
 |cons aU aW ak=>intro aJ;show(f (g aU)).bind _=_;rw [aJ aU mS];show(a_ f (aW.map g)).bind _=_;rw [ak λb hb=>aJ b (aT _ hb)];rfl
def Xn (c:Option (Nat×Nat)):cp 7 (cv c)=some (cd c):=by cases c<;>rfl
def s_ {n:Nat}{xs:List V}{ds:List D}(h:a_ (cp n) xs=some ds):cp (n+1) (.tup xs)=some (.tup ds):=by show(a_ (cp n) xs).bind _=_;refine h.symm▸?_;rfl
def jN {k:Row}(h:iZ k=true):(rv k).toD=some (.tup (gu k)):=by
 have ii:=λm l=>s_ (FR (f:=cp (m+1)) (g:=I) (h:=cy) (λa=>rfl) l);have st:∀{m:Nat}{s:Str},PyData.strOk s=true->cp m (.str s)=some (.str s):=λ{m s} hs=>by cases m<;>(show(if PyData.strOk s=true then some (D.str s) else none)=_;exact (if_pos hs).symm▸rfl)
 refine s_ ?_
 induction k with
 |key s=>unfold rl a_ a_;rw [st h];rfl
 |str s f=>unfold rl a_ a_;refine (st h).symm▸?_;rfl
 |union U=>unfold rl a_ a_;rw [ii 5];rfl
 |inter U=>unfold rl a_ a_;rw [ii 5];rfl
 |obj U s n=>
  have hp:cp 7 (.tup (U.map pv))=some (.tup (U.map λp=>.tup [.str p.name,cy p.t,cy p.flags,cy p.src])):=s_ (NO U λp hp=>s_ (by unfold a_;rw [st (aE h p hp)];rfl))
  delta rl;simp only [a_,hp,Xn];rfl
 |tup S ro=>delta rl;simp only [a_,(s_ (FR (g:=λe:Nat×Nat=>V.tup [I e.1,I e.2]) (h:=λe:Nat×Nat=>D.tup [cy e.1,cy e.2]) (λe=>rfl) S):cp 7 (.tup (S.map λe=>.tup [I e.1,I e.2]))=some (.tup (S.map λe=>.tup [cy e.1,cy e.2])))];rfl
 |_=>rfl
noncomputable def dN:D->Nat
 |.int i=>i.toNat
 |_=>0
noncomputable def dl:D->List D
 |.tup l=>l
 |_=>[]
noncomputable def dS:D->Str
 |.str s=>s
 |_=>⟨#[]⟩
noncomputable def d0 (l:List D)(i:Nat):D:=l.getD i (.int 0)
noncomputable def dC (d:D):Option (Nat×Nat):=match dl d with
 |[]=>none
 |l=>some (dN (d0 l 0),dN (d0 l 1))
noncomputable def dP (d:D):Pr:=⟨dS (d0 (dl d) 0),dN (d0 (dl d) 1),dN (d0 (dl d) 2),dN (d0 (dl d) 3)⟩
noncomputable def dE (d:D):Nat×Nat:=(dN (d0 (dl d) 0),dN (d0 (dl d) 1))
noncomputable def un (l:List D):Row:=match dN (d0 l 0) with
 |1=>.key (dS (d0 l 1))
 |2=>.bool (dN (d0 l 1)) (dN (d0 l 2))
 |3=>.str (dS (d0 l 1)) (dN (d0 l 2))
 |4=>.num (dN (d0 l 1)) (dN (d0 l 2))
 |6=>.union ((dl (d0 l 1)).map dN)
 |7=>.inter ((dl (d0 l 1)).map dN)
 |8=>.obj ((dl (d0 l 1)).map dP) (dC (d0 l 4)) (dC (d0 l 5))
 |9=>.ref (dN (d0 l 1))
 |10=>.param (dN (d0 l 1))
 |11=>.arr (dN (d0 l 1)) (dN (d0 l 2))
 |12=>.tup ((dl (d0 l 1)).map dE) (dN (d0 l 2))
 |14=>.jj (dN (d0 l 1))
 |_=>.index (dN (d0 l 1)) (dN (d0 l 2))
def wN {α:Type}{f:α->D}{g:D->α}(h:∀a,g (f a)=a)(l:List α):(l.map f).map g=l:=by rw [List.map_map];exact (List.map_congr_left λa _=>h a).trans (List.map_id l)
def Iv (c:Option (Nat×Nat)):dC (cd c)=c:=by cases c<;>rfl
def Hr (k:Row):un (gu k)=k:=by
 induction k with
 |union U=>exact congrArg Row.union (wN (λ_=>rfl) U)
 |inter U=>exact congrArg Row.inter (wN (λ_=>rfl) U)
 |obj U s n=>show Row.obj ((U.map _).map dP) (dC (cd s)) (dC (cd n))=_;rw [wN (λ_=>rfl) U,Iv,Iv]
 |tup S ro=>exact congrArg (Row.tup · ro) (wN (λ_=>rfl) S)
 |_=>rfl
def xc {a b:Row}(h:gu a=gu b):a=b:=by rw [<-Hr a,h,Hr]
noncomputable def dc:List Row:=[.key "any",.key "unknown",.key "never",.key "void",.key "undefined",.key "null",.key "string",.key "number",.bool 0 0,.bool 1 0,.key "object",.obj [] none none,.union [8,9],.key "error",.bool 0 1,.bool 1 1]
def MC:zC=dc.map rv:=by kernel_rfl
structure au (G:List Row):Prop where
 pre:dc<+:G
 ok:∀k∈G,iZ k=true
 nd:G.Nodup
 len:G.length<=1000000
def au.tb {G:List Row}(t:au G):Tb (G.map rv) where
 pre:=by refine MC.symm▸?_;exact t.pre.map rv
 key:=λr hr=>by(refine bT hr λk hk fm=>?_;subst fm);exact ⟨_,jN (t.ok k hk)⟩
 one:=λi j ri rj hi hj e=>by rw [List.getElem?_map] at hi hj;refine bc λfm=>?_;(refine lu hi λa ha kJ=>?_;subst kJ);(refine lu hj λb hb eV=>?_;subst eV);replace e:=(jN (t.ok b (dU hb)))▸(jN (t.ok a (dU ha)))▸e;have:a=b:=xc (by injection e with e;injection e);subst this;exact fm ((List.getElem?_inj (dR ha).1 t.nd).mp (ha.trans hb.symm))
 len:=by rw [lM];exact t.len
noncomputable abbrev K (G:List Row)(d:Sh):St:=mk (G.map rv) d
def Hs {n:Nat}{G:List Row}{d:Sh}{k:Row}(t:au G)(hk:iZ k=true)(room:G.length<1000000):
  ∃(i:Nat) (N:List Row),ae (n+1) (64,3) [.obj 0,rv k] (K G d)=sv (I i) (K N d)/\au N/\N[i]?=some k/\(N=G\/N=G++[k]):=by
 refine (Pd (n:=n) (d:=d) t.tb (jN hk) (by rw [lM];exact room)).elim (λdK=>aw dK λi r' H M h3=>?_) (λdn=>ay dn λH M=>?_)
 ·replace H:=List.getElem?_map▸H;(refine lu H λa ha mY=>?_;subst mY);have:a=k:=xc (by rw [jN (t.ok a (dU ha)),jN hk] at M;injection M with M;injection M);exact d6 i G h3 t (this▸ha) (.inl rfl)
 ·refine d6 G.length (G++[k]) ?_ ⟨t.pre.trans (List.prefix_append ..),λx Y=>?_,?_,by rw [List.length_append];exact room⟩ (by rw [List.getElem?_append_right (nR _),Nat.sub_self];rfl) (.inr rfl)
  ·rw [lM] at M;rw [M,show K (G++[k]) d=mk ((G++[k]).map rv) d from rfl,List.map_append];rfl
  ·refine (pE Y).elim (λY=>?_) (λY=>?_)
   ·exact t.ok x Y
   ·cases sE Y;exact hk
  ·rw [List.nodup_append];refine bx t.nd (List.pairwise_singleton ..) (λa ha b hb e=>?_)
   cases sE hb
   exact H (rv a) (mM ha) (e▸rfl)
def nq {xs:List V}{t:Nat}{v:V}(h:xs[t]?=some v)(hl:xs.length<=1000000):xE xs (t:Int)=some v:=by have ht:=(dR h).1;delta xE;rw [show bQ t=true from by delta bQ;rw [Bool.and_eq_true,decide_eq_true_eq,decide_eq_true_eq];exact yz (nT (Nat.le_of_lt ht) hl),dy ((nT ‹_› (nl rfl)))];exact h
def aQ {G:List Row}(t:au G){i:Nat}{k:Row}(h:G[i]?=some k):cz (.ml (G.map rv)) (I i)=some (rv k):=nq (by refine List.getElem?_map.symm▸h.symm▸?_;rfl) (by rw [lM];exact t.len)
def yP (a b:Int):aN .Eq (.int a) (.val (.int b))=some (decide (a=b)):=by
 show some (PyData.eqv (.int a) (.int b))=_;rw [show PyData.eqv (.int a) (.int b)=(a==b) from rfl];by_cases h:a=b
 ·rw [dT h,bI h]
 ·rw [dF h,bN h]
def dx (a b:Nat):aN .Eq (I a) (.val (I b))=some (decide (a=b)):=by rw [yP];exact congrArg some (decide_eq_decide.mpr Int.natCast_inj)
noncomputable def rk:Row->Nat
 |.key _=>1
 |.bool _ _=>2
 |.str _ _=>3
 |.num _ _=>4
 |.union _=>6
 |.inter _=>7
 |.obj _ _ _=>8
 |.ref _=>9
 |.param _=>10
 |.arr _ _=>11
 |.tup _ _=>12
 |.jj _=>14
 |.index _ _=>15
def cq (k:Row):cz (.val (rv k)) (.int 0)=some (I (rk k)):=by cases k<;>rfl
def eS {k:Row}{b:Nat}{r:Bool}(h:decide (rk k=b)=r):aN .Eq (I (rk k)) (.val (I b))=some r:=by rw [dx,h]
noncomputable def g9:Row->Option (List Nat)
 |.union U=>some U
 |_=>none
def FT (k:Row):decide (rk k=6)=(g9 k).isSome:=by cases k<;>rfl
def zt {k:Row}{U:List Nat}(h:g9 k=some U):k=.union U:=by cases k<;>first|(obtain rfl:=oj h;rfl)|exact aF h
noncomputable def bq (G:List Row)(t:Nat):List Nat:=if t=2 then[] else((G[t]?).bind g9).getD [t]
def nI {n:Nat}{G:List Row}{d:Sh}{t:Nat}(h:au G)(ht:t<G.length):ae (n+1) (80,0) [.obj 0,I t] (K G d)=sv (.tup ((bq G t).map I)) (K G d):=by
 by_cases M:t=2
 ·subst M;exact tS [.b true] (A:=aN .Eq (I 2) (.val (I 2))=some true/\(LV.val (.tup []),K G d)=(LV.val (.tup []),K G d)) (by kernel_rfl) ⟨dx 2 2,rfl⟩
 ·have e2:aN .Eq (I t) (.val (I 2))=some false:=by rw [dx,dF M]
  obtain ⟨k,hk⟩:∃k,G[t]?=some k:=⟨_,cM ht⟩;delta bq;refine (if_neg M).symm▸hk.symm▸?_;have hr:=FT k;show _=some (LV.val (.tup (((g9 k).getD [t]).map I)),_);generalize hu:g9 k=z_;induction z_ with
  |some U=>
   obtain rfl:=zt hu;exact tS [.b false,.v (rv (.union U)),.v (I 6),.b true,.v (.tup (U.map I))] (A:=aN .Eq (I t) (.val (I 2))=some false/\cz (.ml (G.map rv)) (I t)=some (rv (.union U))/\cz (.val (rv (.union U))) (.int 0)=some (I 6)/\aN .Eq (I 6) (.val (I 6))=some true/\cz (.val (rv (.union U))) (.int 1)=some (.tup (U.map I))/\(LV.val (.tup (U.map I)),K G d)=(LV.val (.tup (U.map I)),K G d))
    (by kernel_rfl) (IK e2 (aQ h hk) rfl rfl rfl rfl)
  |none=>
   rw [hu] at hr;exact tS [.b false,.v (rv k),.v (I (rk k)),.b false] (A:=aN .Eq (I t) (.val (I 2))=some false/\cz (.ml (G.map rv)) (I t)=some (rv k)/\cz (.val (rv k)) (.int 0)=some (I (rk k))/\aN .Eq (I (rk k)) (.val (I 6))=some false/\(LV.val (.tup [I t]),K G d)=(LV.val (.tup [I t]),K G d))
    (by kernel_rfl) (x6 e2 (aQ h hk) (cq k) (eS hr) rfl)
def C0 {n:Nat}{i:Nat×Nat}{args:List V}{σ:St}{r:LV×St}(a:List An){A:Prop}(h:A)(e:vg n i args σ a r=A):ae (n+1) i args σ=some r:=B9 (e▸h)
def ends (v:V)(σ:St):(LV.val v,σ)=(LV.val v,σ):=rfl
def Xo (i:Int):yC .USub (.int i)=some (.int (-i)):=rfl
noncomputable def f9 (k:Row):Int:=if rk k=3 then 6 else if rk k=4 then 7 else-1
def YI (k:Row):decide (rk k=5)=false:=by cases k<;>rfl
def Jo (k:Row):decide (rk k=18)=false:=by cases k<;>rfl
def Pg {n:Nat}{G:List Row}{d:Sh}{k:Row}:ae (n+1) (81,0) [rv k] (K G d)=sv (.int (f9 k)) (K G d):=by
 delta f9;by_cases h3:rk k=3
 ·rw [if_pos h3];exact C0 [.v (I (rk k)),.b true] (And.intro (cq k)<|And.intro (eS (dT h3))<|ends (.int 6) (K G d)) (by kernel_rfl)
 ·rw [if_neg h3];by_cases h4:rk k=4
  ·rw [if_pos h4];exact C0 [.v (I (rk k)),.b false,.b false,.b true] (And.intro (cq k)<|And.intro (eS (dF h3))<|And.intro (eS (Jo k))<|And.intro (eS (dT h4))<|ends (.int 7) (K G d)) (by kernel_rfl)
  ·rw [if_neg h4];exact C0 [.v (I (rk k)),.b false,.b false,.b false,.b false,.v (.int (-1))] (And.intro (cq k)<|And.intro (eS (dF h3))<|And.intro (eS (Jo k))<|And.intro (eS (dF h4))<|And.intro (eS (YI k))<|And.intro (Xo 1)<|ends (.int (-1)) (K G d)) (by kernel_rfl)
noncomputable def mu (t:Nat):Bool:=[0,1,2,8,13,14].contains t
structure Atom (G:List Row)(p:Nat):Prop where
 row:∃k,G[p]?=some k/\g9 k=none
 no:mu p=false
structure TT (G:List Row):Prop where
 t:au G
 un:∀i U,G[i]?=some (.union U)->i≠12->U.Pairwise (·<·)/\2<=U.length/\∀p∈U,Atom G p
structure Up (G N:List Row)(c:Nat):Prop where
 t:TT N
 pre:G<+:N
 len:N.length<=G.length+c
def bg {G N:List Row}(h:G<+:N){i:Nat}{k:Row}(e:G[i]?=some k):N[i]?=some k:=by obtain ⟨t,rfl⟩:=h;rw [List.getElem?_append_left (dR e).1];exact e
def Atom.up {G N:List Row}(h:G<+:N){p:Nat}(a:Atom G p):Atom N p:=⟨a.row.elim λk h'=>(af k (bg h h'.1) h'.2),a.no⟩
def Up.refl {G:List Row}(h:TT G):Up G G 0:=⟨h,List.prefix_refl _,nR _⟩
def Up.trans {a b c:List Row}{m n:Nat}(h:Up a b m)(h':Up b c n):Up a c (m+n):=⟨h'.t,h.pre.trans h'.pre,nT h'.len (nT (Nat.add_le_add_right h.len n) (Nat.le_of_eq (Nat.add_assoc ..)))⟩
def Up.mono {a b:List Row}{m n:Nat}(h:Up a b m)(l:m<=n):Up a b n:=⟨h.t,h.pre,by have:=h.len;exact nT ‹_› (nA ‹_› _)⟩
def fN {n:Nat}{G:List Row}{d:Sh}{k:Row}(t:TT G)(hk:iZ k=true)(room:G.length<1000000)
  (hu:∀U,k=.union U->U.Pairwise (·<·)/\2<=U.length/\∀p∈U,Atom G p):
  ∃(i:Nat) (N:List Row),ae (n+1) (64,3) [.obj 0,rv k] (K G d)=sv (I i) (K N d)/\Up G N 1/\N[i]?=some k:=by
 refine hZ (Hs (n:=n) (d:=d) t.t hk room) λi N H M h3 h4=>?_;rcases h4 with rfl|rfl
 ·exact aD i _ H ((Up.refl t).mono (lZ _)) h3
 ·refine aD i _ H ⟨⟨M,λj U hj hn=>?_⟩,List.prefix_append ..,by rw [List.length_append];exact nR _⟩ h3;have up:∀q:U.Pairwise (·<·)/\2<=U.length/\∀p∈U,Atom G p,U.Pairwise (·<·)/\2<=U.length/\∀p∈U,Atom (G++[k]) p:=λq=>bx q.1 q.2.1 (λp hp=>(q.2.2 p hp).up (List.prefix_append ..));by_cases g0:j<G.length
  ·rw [List.getElem?_append_left g0] at hj;exact up (t.un j U hj hn)
  ·rw [List.getElem?_append_right ((Nat.not_lt.mp ‹_›))] at hj;generalize Y:j-G.length=z_;induction z_ with
   |zero=>replace hj:=Y▸hj;(injection hj with q_;subst q_);exact up (hu U rfl)
   |succ m=>replace hj:=Y▸hj;exact aF hj
noncomputable def gd (U:List Nat):List (V×V):=U.map λp=>(I p,.int 1)
def Q5 {i:Int}:∀{U:List Nat},(dm (.int i) (gd U)=some (.int 1)/\∃p∈U,(p:Int)=i)\/(dm (.int i) (gd U)=none/\¬∃p∈U,(p:Int)=i):=by
 intro z_
 induction z_ with
 |nil=>exact .inr ⟨rfl,λeY=>aq eY λp hp _=>cj hp⟩
 |cons p U ak=>
  by_cases e:(p:Int)=i
  ·refine .inl ⟨?_,p,mS,e⟩;show cond (D.beq (.int p) (.int i)) _ _=_;refine (show D.beq (.int (p:Int)) (.int i)=true from bI e).symm▸?_;rfl
  ·have hb:D.beq (.int (p:Int)) (.int i)=false:=bN e;have hd:dm (.int i) ((I p,V.int 1)::gd U)=dm (.int i) (gd U):=by
    show cond (D.beq (.int p) (.int i)) _ _=_;refine hb.symm▸?_;rfl
   rcases ak with⟨a,q,hq,b⟩|⟨a,b⟩
   ·exact .inl ⟨hd.trans a,q,aT _ hq,b⟩
   ·refine .inr ⟨hd.trans a,λCX=>aq CX λq hq hi=>?_⟩;rcases mE hq with rfl|hq
    ·exact e hi
    ·exact b (af q hq hi)
def zZ {U:List Nat}{i:Int}:eo (gd U) (.int i)=true:=by cases U<;>rfl
noncomputable def n6 (U:List Nat)(i:Int):Bool:=U.any λp=>decide ((p:Int)=i)
def oQ {U:List Nat}{i:Int}:n6 U i=true↔∃p∈U,(p:Int)=i:=by delta n6;rw [List.any_eq_true];exact ⟨λuL=>aq uL λp h e=>(af p h (cS e)),λXp=>aq Xp λp h e=>(af p h (dT e))⟩
def Iw (U:List Nat)(i:Int):(dh (gd U) (.int i)).map Option.isSome=some (n6 U i):=by
 show(guard (eo (gd U) (.int i)) (some (dm (.int i) (gd U)))).map _=_;refine zZ.symm▸((Q5 (i:=i) (U:=U)).elim (λjq=>ay jq λa b=>?_) (λpS=>ay pS λa b=>?_))
 ·rw [a,oQ.mpr b];rfl
 ·rw [a,fI λh=>b (oQ.mp h)];rfl
def in_dict (U:List Nat)(i:Int):aN .In (.int i) (.val (.dict (gd U)))=some (n6 U i):=Iw U i
def Ph (U:List Nat)(i:Int):aN .NotIn (.int i) (.val (.dict (gd U)))=some (!n6 U i):=by show(((dh (gd U) (.int i)).map Option.isSome).map not)=_;rw [Iw];rfl
noncomputable def jv (U:List Nat)(q:Nat):List Nat:=if q∈U then U else U++[q]
def Gy {q:Nat}:∀{U:List Nat},hF (.int q) (I q) (.int 1) (gd U)=gd (jv U q)
 |[]=>rfl
 |p::U=>by
  show(cond (D.beq (.int p) (.int q)) ((I p,V.int 1)::gd U) ((I p,V.int 1)::hF (.int q) (I q) (.int 1) (gd U)))=_;delta jv;by_cases e:p=q
  ·subst e;refine (show D.beq (.int p) (.int p)=true from bI rfl).symm▸(if_pos mS).symm▸?_;rfl
  ·refine (show D.beq (.int p) (.int q)=false from bN λh=>e (Int.natCast_inj.mp h)).symm▸Gy.symm▸?_;delta jv;by_cases h:q∈U
   ·rw [if_pos h,if_pos (aT _ h)];rfl
   ·rw [if_neg h,if_neg λh'=>(mE h').elim (λx=>e x.symm) h];rfl
def Ht {U:List Nat}(q:Nat)(h:U.length<=1000):gN (gd U) (I q) (.int 1)=some (gd (jv U q)):=by show guard (aY (gd U).length&&eo (gd U) (.int q)) (some (hF (.int q) (I q) (.int 1) (gd U)))=_;refine zZ.symm▸(dy (by show(gd U).length<=1048576;delta gd;rw [lM];exact nT ‹_› (nl rfl))).symm▸Gy.symm▸?_;rfl
def Aa {U:List Nat}{q p:Nat}:p∈jv U q↔p∈U\/p=q:=by
 delta jv;by_cases h:q∈U
 ·rw [if_pos h];exact ⟨.inl,λh'=>h'.elim id λe=>e▸h⟩
 ·rw [if_neg h,List.mem_append,List.mem_singleton]
def MD {U:List Nat}{q:Nat}(h:U.Nodup):(jv U q).Nodup:=by
 delta jv;by_cases e:q∈U
 ·rw [if_pos e];exact h
 ·rw [if_neg e,List.nodup_append];exact bx h (List.pairwise_singleton ..) (λa ha b hb vM=>by obtain rfl:=sE hb;exact e (vM▸ha))
noncomputable def ltN (a b:Nat):Bool:=decide (a<b)
def Pj (x:Nat):∀l:List Nat,fO lR x (l.map λi:Nat=>(i:Int))=(fO ltN x l).map λi:Nat=>(i:Int):=by
 intro bz
 induction bz with
 |nil=>exact rfl
 |cons aJ aU ak=>
  show cond (lR x aJ) _ _=(cond (ltN x aJ) _ _:List Nat).map _;refine (show lR x aJ=ltN x aJ from decide_eq_decide.mpr Int.ofNat_lt).symm▸?_
  cases ltN x aJ with
  |true=>rfl
  |false=>exact congrArg ((aJ:Int)::·) (ak)
def NP:∀l:List Nat,bZ lR (l.map λi:Nat=>(i:Int))=(bZ ltN l).map λi:Nat=>(i:Int):=by
 intro bz
 induction bz with
 |nil=>exact rfl
 |cons aJ aU ak=>show fO lR aJ (bZ lR (aU.map _))=_;rw [ak,Pj];rfl
def FU {x a:Nat}:∀{l:List Nat},a∈fO ltN x l↔a=x\/a∈l:=by
 intro z_
 induction z_ with
 |nil=>exact List.mem_cons
 |cons y l ak=>
  show a∈(cond (ltN x y) _ _)↔_
  cases ltN x y with
  |true=>exact List.mem_cons
  |false=>show a∈y::fO ltN x l↔_;rw [List.mem_cons,ak,List.mem_cons,or_left_comm]
def oR {a:Nat}:∀{l:List Nat},a∈bZ ltN l↔a∈l:=by
 intro z_
 induction z_ with
 |nil=>exact Iff.rfl
 |cons x l ak=>rw [show bZ ltN (x::l)=fO ltN x (bZ ltN l) from rfl,FU,ak,List.mem_cons]
def Ly {x:Nat}:∀{l:List Nat},l.Pairwise (·<·)->x∉l->(fO ltN x l).Pairwise (·<·):=by
 intro z_
 induction z_ with
 |nil=>intro _ _;exact List.pairwise_singleton ..
 |cons y l ak=>
  intro h Y;show(cond (ltN x y) _ _:List Nat).Pairwise _;have h:=lQ h;have hn:x≠y:=λe=>Y (List.mem_cons.mpr (.inl e));generalize e:ltN x y=z_;induction z_ with
  |true=>have e:=cS e;exact List.pairwise_cons.mpr ⟨λa ha=>(mE ha).elim (λq=>q▸e) λq=>Nat.lt_trans e (h.1 a q),List.pairwise_cons.mpr h⟩
  |false=>have e:=of_decide_eq_false e;exact List.pairwise_cons.mpr ⟨λa ha=>(FU.mp ha).elim (λq=>q▸Nat.lt_of_le_of_ne (Nat.not_lt.mp e) (Ne.symm hn)) λq=>h.1 a q,ak h.2 λq=>Y (aT _ q)⟩
def K6:∀{l:List Nat},l.Nodup->(bZ ltN l).Pairwise (·<·):=by
 intro z_
 induction z_ with
 |nil=>intro _;exact List.Pairwise.nil
 |cons x l ak=>intro h;exact Ly (ak (nE h).2) λq=>(nE h).1 (oR.mp q)
def ints_map:∀l:List Nat,a_ c8 (l.map I)=some (l.map λi:Nat=>(i:Int)):=by
 intro bz
 induction bz with
 |nil=>exact rfl
 |cons aJ aU ak=>show(a_ c8 (aU.map I)).bind _=_;refine (ak).symm▸?_;rfl
def sN {U:List Nat}(h:U.length<64):blt .sorted [.dict (gd U)]=some (.ml ((bZ ltN U).map I)):=by show guard (decide ((gd U).length<64)) ((sorted ((gd U).map (·.1))).bind _)=_;rw [dT (by show(gd U).length<64;delta gd;rwa [lM])];show(sorted ((gd U).map (·.1))).bind _=_;rw [show(gd U).map (·.1)=U.map I from by delta gd;rw [List.map_map];rfl];delta sorted;rw [ints_map];show some (LV.ml ((bZ lR (U.map λi:Nat=>(i:Int))).map V.int))=_;rw [NP,List.map_map];rfl
noncomputable def fr:Row->Option Row
 |.bool b f=>if f=1 then some (.bool b 0) else none
 |.str s f=>if f=1 then some (.str s 0) else none
 |.num n f=>if f=1 then some (.num n 0) else none
 |_=>none
def A8 {G:List Row}{k:Row}{d:Sh}(h:au G)(hk:iZ k=true):∃j:Int,jg (.val (.obj 2)) "get" [rv k,.int (-1)] (K G d)=sv (.int j) (K G d)/\((j=-1/\k∉G)\/∃i:Nat,j=i/\G[i]?=some k):=by
 have hg:∀o,dm (.tup (gu k)) (cQ 0 (G.map rv))=o->jg (.val (.obj 2)) "get" [rv k,.int (-1)] (K G d)=sv (o.getD (.int (-1))) (K G d):=λo ho=>by show((dh (cQ 0 (G.map rv)) (rv k)).bind λx=>some (x.getD (.int (-1)))).bind _=_;delta dh;refine (jN hk).symm▸?_;show((guard (eo _ _) _).bind _).bind _=_;refine h.tb.first.symm▸ho.symm▸?_;rfl
 refine (FQ (d:=.tup (gu k)) (k:=0) h.tb.key).elim (λjw=>ay jw λe hn=>?_) (λkJ=>aw kJ λi r' e H M=>?_)
 ·exact af _ (hg _ e) (.inl ⟨rfl,λhm=>hn _ (mM hm) (jN hk)⟩)
 ·replace H:=List.getElem?_map▸H;(refine lu H λa ha dK=>?_;subst dK);have:a=k:=xc (by rw [jN (h.ok a (dU ha))] at M;injection M with M;injection M);exact af _ (hg _ e) (.inr (af i (by rw [Nat.zero_add]) (this▸ha)))
def tD {n t:Nat}{G:List Row}{k:Row}{d:Sh}(h:au G)(hk:G[t]?=some k):∃j:Int,ae (n+1) (82,0) [.obj 0,I t] (K G d)=sv (.int j) (K G d)/\
  ((j=-1/\∀r,fr k=some r->r∉G)\/∃(r:Row) (i:Nat),j=i/\fr k=some r/\G[i]?=some r):=by
 have hr:=aQ h hk;have fresh:∀{b:Row}{j:Int},fr k=some b->((j=-1/\b∉G)\/∃i:Nat,j=i/\G[i]?=some b)->((j=-1/\∀r,fr k=some r->r∉G)\/∃(r:Row) (i:Nat),j=i/\fr k=some r/\G[i]?=some r):=λhb hj=>by
  refine hj.elim (λdn=>ay dn λH M=>?_) (λgP=>aq gP λi H M=>?_)
  ·exact .inl ⟨H,λr e=>by replace e:=hb▸e;obtain rfl:=oj e;exact M⟩
  ·exact .inr (aD _ i H hb M)
 have plain:∀{j:Int},fr k=none->j=-1->((j=-1/\∀r,fr k=some r->r∉G)\/∃(r:Row) (i:Nat),j=i/\fr k=some r/\G[i]?=some r):=λhb hj=>.inl ⟨hj,λr e=>by replace e:=hb▸e;exact aF e⟩
 induction k with
 |str s f=>
  have e:=dx f 1;by_cases hf:f=1
  ·subst hf;exact aq (A8 (k:=.str s 0) (d:=d) h (h.ok _ (dU hk):iZ (.str s 1)=true)) λj hj g0=>af j (aa [.v hr,.z 1,.b e,.z 7,.r hj]) (fresh rfl g0)
  ·rw [dF hf] at e;exact af (-1) (aa [.v hr,.z 4,.b e,.z 1]) (plain (if_neg hf) rfl)
 |num s f=>
  have e:=dx f 1;by_cases hf:f=1
  ·subst hf;exact aq (A8 (k:=.num s 0) (d:=d) h (h.ok _ (dU hk):iZ (.num s 1)=true)) λj hj g0=>af j (aa [.v hr,.z 1,.b e,.z 7,.r hj]) (fresh rfl g0)
  ·rw [dF hf] at e;exact af (-1) (aa [.v hr,.z 4,.b e,.z 1]) (plain (if_neg hf) rfl)
 |bool s f=>
  have e:=dx f 1;by_cases hf:f=1
  ·subst hf;exact aq (A8 (k:=.bool s 0) (d:=d) h (h.ok _ (dU hk):iZ (.bool s 1)=true)) λj hj g0=>af j (aa [.v hr,.z 1,.b e,.z 7,.r hj]) (fresh rfl g0)
  ·rw [dF hf] at e;exact af (-1) (aa [.v hr,.z 4,.b e,.z 1]) (plain (if_neg hf) rfl)
 |obj U s n=>exact af (-1) (aa [.v hr,.z 6]) (plain rfl rfl)
 |key s=>exact af (-1) (aa [.v hr,.z 3]) (plain rfl rfl)
 |_=>exact af (-1) (aa [.v hr,.z 3]) (plain rfl rfl)
def BB {G:List Row}{U:List Nat}{i:Nat}(h:∀p∈U,Atom G p)(hi:mu i=true):n6 U i=false:=fI λe=>by refine aq (oQ.mp e) λp hp e=>?_;rw [Int.natCast_inj.mp e,] at hp;have:=(h i hp).no;replace this:=hi▸this;exact d7 this
def uA {G:List Row}{U:List Nat}(h:∀p∈U,Atom G p)(i:Nat)(hi:mu i=true):aN .In (I i) (.val (.dict (gd U)))=some false:=(in_dict U i).trans (congrArg some (BB h hi))
def A9 {n:Nat}{G:List Row}{d:Sh}{U:List Nat}(h:∀p∈U,Atom G p):ae (n+1) (85,0) [.dict (gd U)] (K G d)=sv (.int (-1)) (K G d):=aa [.z 1,.b (uA h 0 rfl),.b (uA h 13 rfl),.b (uA h 1 rfl),.z 1]
def Aw {n:Nat}{G:List Row}{d:Sh}{U:List Nat}(h:∀p∈U,Atom G p):ae (n+1) (83,0) [.dict (gd U)] (K G d)=sv .none (K G d):=aa [.b (uA h 8 rfl),.b (uA h 14 rfl)]
def pB (G:List Row)(P:Nat->Prop)(t:Nat):Prop:=∀k,G[t]?=some k->(∀r,fr k=some r->∀i,G[i]?=some r->¬P i)/\∀i:Nat,f9 k=i->¬P i
open Classical in
noncomputable def st (G:List Row)(U:List Nat)(t:Nat):Bool:=decide (pB G (·∈U) t)
open Classical in
def Pk {n t:Nat}{G:List Row}{d:Sh}{k:Row}{U:List Nat}(h:au G)(hk:G[t]?=some k):ae (n+2) (84,0) [.obj 0,.dict (gd U),I t] (K G d)=sv (.bool (st G U t)) (K G d):=by
 refine aq (tD (n:=n) (d:=d) h hk) λj hj g0=>?_;have i1:=in_dict U j;have i2:=Ph U (f9 k);have hr:=aQ h hk;have hw:=Pg (n:=n) (d:=d) (G:=G) (k:=k);have fin:∀b:Bool,(b=true↔pB G (·∈U) t)->st G U t=b:=λb hb=>by
  induction b with
  |true=>exact dT (hb.mp rfl)
  |false=>exact dF λq=>Bool.noConfusion (hb.mpr q)
 generalize e1:n6 U j=z_;induction z_ with
 |true=>
  rw [e1] at i1;have hs:=fin false ⟨λq=>(aS q),λq=>(by
   exfalso;refine aq (oQ.mp e1) λp hp e=>g0.elim (λBR=>ay BR λa b=>?_) (λnZ=>aw nZ λr i a b c=>?_)
   ·rw [a] at e;lia
   ·replace e:=a▸e;obtain rfl:=Int.natCast_inj.mp e;exact (q k hk).1 r b p c hp)⟩
  rw [hs];exact aa [.r hj,.b i1]
 |false=>
  rw [e1] at i1;generalize e2:n6 U (f9 k)=z_;induction z_ with
  |true=>
   rw [e2] at i2;have hs:=fin false ⟨λq=>(aS q),λq=>(by exfalso;obtain ⟨p,hp,e⟩:=oQ.mp e2;exact (q k hk).2 p e.symm hp)⟩
   rw [hs];exact aa [.r hj,.b i1,.v hr,.r hw,.b i2]
  |false=>
   rw [e2] at i2;have hs:=fin true ⟨λ_ k' ie=>(by
    replace ie:=hk▸ie;obtain rfl:=oj ie;refine ⟨λr hr i hi hp=>g0.elim (λum=>ay um λa b=>?_) (λVw=>aw Vw λr' i' a b c=>?_),λi hi hp=>Bool.eq_false_iff.mp e2 (oQ.mpr (af i hp hi.symm))⟩
    ·exact b r hr (dU hi)
    ·replace b:=hr▸b;obtain rfl:=oj b;have:i=i':=(List.getElem?_inj (dR hi).1 h.nd).mp (hi.trans c.symm);exact Bool.eq_false_iff.mp e1 (oQ.mpr (af i hp (a.symm▸this.symm▸rfl)))),λ_=>rfl⟩
   rw [hs];exact aa [.r hj,.b i1,.v hr,.r hw,.b i2]
noncomputable def uX (pv:V)(g:List Nat)(lt lp:LV)(σ:St):X:=⟨ez (86,0),[nv "tab" (.val (.obj 0)),nv "parts" (.val pv),nv "got" (.md (gd g)),(.ofString "t",lt),(.ofString "part",lp),nv "top" .unset,nv "kept" .unset],σ⟩
structure fU (P:Nat->Prop)(g:List Nat):Prop where
 nd:g.Nodup
 all:∀p∈g,P p
def fU.add {P:Nat->Prop}{g:List Nat}(h:fU P g){q:Nat}(hq:P q):fU P (jv g q):=⟨MD h.nd,λp hp=>(Aa.mp hp).elim (h.all p) λe=>e▸hq⟩
def Pm {n:Nat}{pv:V}{P:Nat->Prop}{σ:St}{lt:LV}(iK:∀g,fU P g->g.length<64):∀{qs g:List Nat}{lp:LV},fU P g->(∀q∈qs,P q)->
  ∃g' bG,(∀Z,cF n 10 (86,0) 1 (qs.map I) (uX pv g lt lp σ) Z=Z .next (uX pv g' lt bG σ))/\fU P g'/\∀p,p∈g'↔p∈g\/p∈qs:=by
 intro z_
 induction z_ with
 |nil=>intro g lp h _;exact aD g lp (dk (by kernel_rfl)) h (λp=>⟨.inl,λh=>h.elim id λh=>cj h⟩)
 |cons q qs ak=>intro g lp h hq;have hl:=iK g h;have ht:∀Z,aZ n 10 (86,0) 1 (I q) (uX pv g lt lp σ) Z=Z .next (uX pv (jv g q) lt (.val (I q)) σ):=aX [.e (Ht q (lC hl rfl))];obtain ⟨g',bG,a,b,c⟩:=ak (h.add (hq q mS)) λp hp=>hq p (aT _ hp);exact aD g' bG (cD ht a) b (λp=>by rw [c,Aa,List.mem_cons,or_assoc])
def Pn {n:Nat}{pv:V}{G:List Row}{P:Nat->Prop}{d:Sh}(h:au G)(iK:∀g,fU P g->g.length<64):∀{ts g:List Nat}{lt lp:LV},fU P g->(∀t∈ts,t<G.length/\∀q∈bq G t,P q)->
  ∃g' lt' bG,(∀Z,cF (n+1) 11 (86,0) 0 (ts.map I) (uX pv g lt lp (K G d)) Z=Z .next (uX pv g' lt' bG (K G d)))/\fU P g'/\∀p,p∈g'↔p∈g\/∃t∈ts,p∈bq G t:=by
 intro z_
 induction z_ with
 |nil=>intro g lt lp hg _;exact gf g lt lp (dk (by kernel_rfl)) hg (λp=>⟨.inl,λh=>h.elim id λVx=>aq Vx λt h _=>cj h⟩)
 |cons t ts ak=>
  intro g lt lp hg ht;refine bc λcx=>?_;obtain ⟨g1,YJ,a,b,c⟩:=Pm (n:=n+1) (pv:=pv) (σ:=K G d) (lt:=.val (I t)) (lp:=lp) iK hg (ht t mS).2;have hp:=nI (n:=n) (d:=d) h (ht t mS).1;have Dm:∀Z,aZ (n+1) 11 (86,0) 0 (I t) (uX pv g lt lp (K G d)) Z=Z .next (uX pv g1 (.val (I t)) YJ (K G d)):=aX [.r hp,.z 1,.f a];obtain ⟨g',lt',bG,a',b',c'⟩:=ak b λp hp=>ht p (aT _ hp);refine cx (gf g' lt' bG (cD Dm a') b' (λp=>?_));rw [c',c,or_assoc];refine or_congr_right ⟨λh=>h.elim (λh=>(af t mS h)) λVy=>aq Vy λt' H M=>(af t' (aT _ H) M),λVz=>aq Vz λt' H M=>?_⟩;rcases mE H with rfl|H
  ·exact .inl M
  ·exact .inr (af t' H M)
noncomputable def uV (pv:V)(g:List Nat)(lt lp:LV):bL:=[nv "tab" (.val (.obj 0)),nv "parts" (.val pv),nv "got" (.val (.dict (gd g))),(.ofString "t",lt),(.ofString "part",lp),nv "top" (.val (.int (-1))),nv "kept" .unset]
def Gz {n:Nat}{G:List Row}{d:Sh}{pv:V}{g:List Nat}{lt lp:LV}(h:au G):∀{l:List Nat},(∀p∈l,∃k,G[p]?=some k)->∀Z,eN (n+2) 39 (86,0) 0 (uV pv g lt lp) (l.map I) (K G d) Z=Z ((l.filter (st G g)).map I) (K G d)
 |[],_=>jc (by kernel_rfl)
 |p::l,hl=>by
  refine aM (hl p mS) λk hk=>?_;have hs:=Pk (n:=n) (d:=d) (U:=g) h hk;have hi:=Gz (n:=n) (d:=d) (pv:=pv) (g:=g) (lt:=lt) (lp:=lp) h λq hq=>hl q (aT _ hq);refine List.filter_cons.symm▸?_;generalize e:st G g p=z_;induction z_ with
  |true=>rw [e] at hs;have ht:∀Z,fz (n+2) 39 (86,0) 0 (uV pv g lt lp) (I p) (K G d) Z=Z (some (I p)) (K G d):=ew [.r hs];exact fY ht hi
  |false=>rw [e] at hs;exact fY (ew [.r hs]:∀Z,fz (n+2) 39 (86,0) 0 (uV pv g lt lp) (I p) (K G d) Z=Z none (K G d)) hi
structure Ty (G:List Row)(t:Nat):Prop where
 lt:t<G.length
 at':∀q∈bq G t,Atom G q
def tc {G N:List Row}(h:G<+:N){t:Nat}(ht:t<G.length):bq N t=bq G t:=by delta bq;exact (bg h (cM ht)).symm▸(cM ht).symm▸rfl
def Ty.up {G N:List Row}(h:G<+:N){t:Nat}(y:Ty G t):Ty N t:=⟨lL y.lt h.length_le,λq hq=>by rw [tc h y.lt] at hq;exact (y.at' q hq).up h⟩
def g8 {G:List Row}{p:Nat}(a:Atom G p):bq G p=[p]:=by refine aq a.row λk hk hu=>?_;delta bq;rw [if_neg λe=>(by have:=a.no;replace this:=e▸this;exact d7 this),hk];show((g9 k).getD [p])=[p];refine hu.symm▸?_;rfl
def Atom.ty {G:List Row}{p:Nat}(a:Atom G p):Ty G p:=⟨a.row.elim λk h=>(dR h.1).1,λq hq=>by replace hq:=(g8 a)▸hq;obtain rfl:=sE hq;exact a⟩
def sO {G:List Row}{i:Nat}{U:List Nat}(h:au G)(hi:G[i]?=some (.union U)):bq G i=U:=by
 delta bq;rw [if_neg,hi]
 ·rfl
 ·rintro rfl;have:G[2]?=some (.key "never"):=bg h.pre rfl;replace hi:=this▸hi;cases hi
def gT {n:Nat}(h:n<=1048576):cond (aY n) (some ()) none=some ():=by refine (dy h).symm▸?_;rfl
def rY {xs:List V}(h:xs.length<=1048576):kW (.ml xs)=some (I xs.length):=by show(guard (aY xs.length) _)=_;refine (dy h).symm▸?_;rfl
def yn {xs:List V}(h:xs.length<=1048576):blt .tuple [.list xs]=some (.val (.tup xs)):=by show(guard (aY xs.length) _)=_;refine (dy h).symm▸?_;rfl
def Sx {x:V}{xs:List V}(h:xs.length<=1000000):k8 (.list (x::xs))=some true:=by show(guard (aY (x::xs).length) _:Option Bool)=_;rw [dy (by rw [List.length_cons];exact Nat.lt_of_le_of_lt ‹_› (nl rfl))];rfl
def vN (a b:Int):aN .Gt (.int a) (.val (.int b))=some (decide (b<a)):=rfl
def Lz (l:List Nat):(bZ ltN l).length=l.length:=by
 have h:∀x l,(fO ltN x l).length=l.length+1:=λx l=>by
  induction l with
  |nil=>rfl
  |cons y l ih=>
   show(cond (ltN x y) (x::y::l) (y::fO ltN x l)).length=_
   cases ltN x y with
   |true=>rfl
   |false=>show(fO ltN x l).length+1=_;rw [ih];rfl
 induction l with
 |nil=>rfl
 |cons x l ih=>show(fO ltN x (bZ ltN l)).length=_;rw [h,ih];rfl
def Of (G:List Row)(ts:List Nat)(p:Nat):Prop:=∃t∈ts,p∈bq G t
open Classical in
def Sy {G:List Row}{g:List Nat}{P:Nat->Prop}(h:∀p,p∈g↔P p)(p:Nat):st G g p=true↔pB G P p:=by rw [show P=λx=>x∈g from funext λx=>propext (h x).symm];exact ⟨cS,λh=>dT h⟩
def td {n:Nat}{G:List Row}{d:Sh}{pv:V}{ts:List Nat}(h:TT G)(room:G.length<1000000)(hi:bA pv=some (ts.map I))(ty:∀t∈ts,Ty G t)
  (iK:∀g,fU (Of G ts) g->g.length<64):
  ∃t N,ae (n+3) (86,0) [.obj 0,pv] (K G d)=sv (I t) (K N d)/\Up G N 1/\Ty N t/\∀p,p∈bq N t↔Of G ts p/\pB G (Of G ts) p:=by
 refine fA (Pn (n:=n+1) (pv:=pv) (d:=d) (lt:=.unset) (lp:=.unset) h.t iK ⟨List.Pairwise.nil,λp hp=>nomatch hp⟩ λt ht=>⟨(ty t ht).lt,λq hq=>(af t ht hq)⟩) λg lt lp hl hf hg=>?_;have kK:∀p,p∈g↔Of G ts p:=λp=>(hg p).trans ⟨λh=>h.elim (λh=>nomatch h) id,.inr⟩;have ha:=λp hp=>((kK p).mp hp).elim λt h=>(ty t h.1).at' p h.2;have sC:=iK g hf;have hL:(bZ ltN g).length<64:=by rw [Lz];exact sC
 have hk:=Gz (n:=n) (d:=d) (pv:=pv) (g:=g) (lt:=lt) (lp:=lp) h.t λp hp=>(ha p (oR.mp hp)).row.elim λk h=>eg k h.1;have hm:∀p,p∈(bZ ltN g).filter (st G g)↔Of G ts p/\pB G (Of G ts) p:=λp=>by rw [List.mem_filter,oR,kK,Sy kK]
 have Iy:((bZ ltN g).filter (st G g)).Pairwise (·<·):=(K6 hf.nd).sublist List.filter_sublist;have hlen:((bZ ltN g).filter (st G g)).length<64:=Nat.lt_of_le_of_lt (List.length_filter_le _ _) hL;have vO:∀p∈(bZ ltN g).filter (st G g),Atom G p:=λp hp=>ha p (oR.mp (List.mem_filter.mp hp).1);generalize (bZ ltN g).filter (st G g)=kept at hk hm Iy hlen vO
 match kept with
 |[]=>have he:bq G 2=[]:=rfl;refine d6 2 G ?_ ((Up.refl h).mono (lZ _)) ⟨lL (nl rfl) h.t.pre.length_le,λq hq=>by rw [he] at hq;nomatch hq⟩ (λp=>by refine he.symm▸?_;exact hm p);exact aa [.s hi,.f hl,.r (A9 (n:=n+1) (d:=d) ha),.z 1,.r (Aw (n:=n+1) (d:=d) ha),.l (sN sC),.z 1,.g (gT (by rw [lM];exact lC hL rfl):cond (aY ((bZ ltN g).map I).length) (some ()) none=some ()),.c hk,.z 1]
 |[p]=>refine d6 p G ?_ ((Up.refl h).mono (lZ _)) ((vO p mS).ty) (λq=>by refine (g8 (vO p mS)).symm▸?_;exact hm q);exact aa [.s hi,.f hl,.r (A9 (n:=n+1) (d:=d) ha),.z 1,.r (Aw (n:=n+1) (d:=d) ha),.l (sN sC),.z 1,.g (gT (by rw [lM];exact lC hL rfl):cond (aY ((bZ ltN g).map I).length) (some ()) none=some ()),.c hk,.z 4]
 |p::q::l=>
  obtain ⟨i,N,H,M,h3⟩:=fN (n:=n+1) (d:=d) (k:=.union (p::q::l)) h rfl room λU e=>by(injection e with q_;subst q_);exact ⟨Iy,Nat.le_add_left 2 _,vO⟩
  refine d6 i N ?_ M ⟨(dR h3).1,λr hr=>by rw [(sO M.t.t h3)] at hr;exact (vO r hr).up M.pre⟩ (λr=>by refine (sO M.t.t h3).symm▸?_;exact hm r);have Dy:((p::q::l).map I).length<=1000:=by rw [lM];exact lC hlen rfl
  have e1:=rY (xs:=(p::q::l).map I) (nT Dy (nl rfl));have e2:aN .Eq (I ((p::q::l).map I).length) (.val (.int 1))=some false:=by rw [show(V.int 1)=I 1 from rfl,dx];exact congrArg some (dF λh=>Ci (Nat.succ.inj h))
  have e3:aN .Gt (I ((p::q::l).map I).length) (.val (.int 400))=some false:=by rw [vN];exact congrArg some (dF (by rw [lM];exact Int.not_lt.mpr ((Int.ofNat_le (n:=400)).mpr (lC hlen rfl))))
  exact aa [.s hi,.f hl,.r (A9 (n:=n+1) (d:=d) ha),.z 1,.r (Aw (n:=n+1) (d:=d) ha),.l (sN sC),.z 1,.g (gT (by rw [lM];exact lC hL rfl):cond (aY ((bZ ltN g).map I).length) (some ()) none=some ()),.c hk,.b (Sx (x:=I p) (nT (Nat.le_of_succ_le Dy) (nl rfl):((q::l).map I).length<=1000000)),.v e1,.b e2,.v e1,.b e3,.l (yn (xs:=(p::q::l).map I) (nT Dy (nl rfl))),.r H]
noncomputable def yQ (a b:Row):Bool:=D.jJ (gu a) (gu b)
def tE {a b:Row}:yQ a b=true↔a=b:=⟨λh=>xc ((zO.2 _ _).mp h),λh=>(zO.2 _ _).mpr (h▸rfl)⟩
structure Tab where
 rows:List Row
 yo:List (Option Nat)
 rZ:List Nat
noncomputable def Tab.c6 (L:Tab)(j:Nat):Option Nat:=(L.yo[j]?).join
noncomputable def Tab.bits (L:Tab)(j:Nat):Nat:=L.rZ.getD j 0
noncomputable def A_:List Row->Bool
 |[]=>true
 |a::l=>!(l.any (yQ a))&&A_ l
def E6:∀{l:List Row},A_ l=true->l.Nodup:=by
 intro z_
 induction z_ with
 |nil=>intro _;exact List.Pairwise.nil
 |cons a l ak=>intro h;have h:=iD h;refine List.nodup_cons.mpr ⟨λhm=>?_,ak h.2⟩;have:l.any (yQ a)=true:=List.any_eq_true.mpr ⟨a,hm,tE.mpr rfl⟩;replace h:=this▸h;exact aS h.1
noncomputable def anyB (a b:Option Row):Bool:=(a.bind λa=>b.map (yQ a)).getD false
def anyB_iff {a b:Option Row}(h:anyB a b=true):∃k,a=some k/\b=some k:=by
 induction a with
 |none=>exact aS h
 |some a=>induction b with
  |none=>exact aS h
  |some b=>exact af a rfl ((tE.mp h).symm▸rfl)
noncomputable def Tab.vQ (L:Tab)(j:Nat):Bool:=(L.rows[j]?).elim (L.c6 j).isNone λk=>(fr k).isNone&&((g9 k).isNone&&(iZ k&&((List.range 16).all (λi=>!(mu i&&anyB (dc[i]?) (some k)))&&
 (L.c6 j).elim (decide (f9 k=-1)) λw=>(L.c6 w).isNone&&(anyB (L.rows[w]?) (dc[(f9 k).toNat]?)&&decide (0<=f9 k)))))
noncomputable def Tab.qp (L:Tab)(j:Nat):Bool:=decide (L.bits j<2^L.rows.length)&&(List.range 10).all λb=>(L.bits j).testBit b==(decide (b=j)||decide (L.c6 b=some j))
structure Tab.Good (L:Tab):Prop where
 nd:L.rows.Nodup
 len:L.rows.length<=10
 dl:L.yo.length=L.rows.length
 bl:L.rZ.length=L.rows.length
 vQ:∀j,j<L.rows.length->L.vQ j=true
 qp:∀j,j<L.rows.length->L.qp j=true
variable{L:Tab}
def GA (h:(A_ L.rows&&(decide (L.rows.length<=10)&&(decide (L.yo.length=L.rows.length)&&(decide (L.rZ.length=L.rows.length)&&((List.range L.rows.length).all L.vQ&&(List.range L.rows.length).all L.qp)))))=true):L.Good:=by simp only [Bool.and_eq_true,decide_eq_true_eq,List.all_eq_true,List.mem_range] at h;exact ⟨E6 h.1,h.2.1,h.2.2.1,h.2.2.2.1,h.2.2.2.2.1,h.2.2.2.2.2⟩
structure Tab.At (L:Tab)(j:Nat)(k:Row):Prop where
 fr:fr k=none
 un:g9 k=none
 ok:iZ k=true
 no:∀i,mu i=true->dc[i]?≠some k
 plain:L.c6 j=none->f9 k=-1
 c6:∀w,L.c6 j=some w->L.c6 w=none/\∃r,L.rows[w]?=some r/\0<=f9 k/\dc[(f9 k).toNat]?=some r
def pC {i:Nat}(h:mu i=true):i<16:=cS (aE (rfl:[0,1,2,8,13,14].all (λi=>decide (i<16))=true) i (cE h))
def Tab.Good.at' (ai:L.Good){j:Nat}{k:Row}(h:L.rows[j]?=some k):L.At j k:=by
 have c:=ai.vQ j (dR h).1;unfold Tab.vQ at c;rw [h] at c;simp only [Option.elim,Bool.and_eq_true,Option.isNone_iff_eq_none,List.all_eq_true,List.mem_range,Bool.not_eq_true'] at c;refine Ce c λc1 c2 c3 c4 c5=>⟨c1,c2,c3,λi hi e=>?_,λe=>?_,λw e=>?_⟩
 ·have:=c4 i (pC hi);replace this:=(show anyB (some k) (some k)=true from tE.mpr rfl)▸e▸hi▸this;exact d7 this
 ·replace c5:=e▸c5;exact cS c5
 ·replace c5:=e▸c5;simp only [Bool.and_eq_true,Option.isNone_iff_eq_none,decide_eq_true_eq] at c5;exact aq (anyB_iff c5.2.1) λr H M=>⟨c5.1,r,H,c5.2.2,M⟩
def Tab.Good.Hu (ai:L.Good){j w:Nat}(h:L.c6 j=some w):∃k,L.rows[j]?=some k:=by
 delta Tab.c6 at h;generalize e:L.yo[j]?=z_;induction z_ with
 |none=>replace h:=e▸h;exact aF h
 |some o=>have:=(dR e).1;exact ⟨_,cM (ai.dl▸this)⟩
structure fM (L:Tab)(m:Nat):Prop where
 lt:m<2^L.rows.length
 ok:∀j w,L.c6 j=some w->m.testBit w=true->m.testBit j=true
def Tab.on (L:Tab)(m j:Nat):Prop:=m.testBit j=true/\∀w,L.c6 j=some w->m.testBit w=false
def fM.row {m j:Nat}(h:fM L m)(hj:m.testBit j=true):∃k,L.rows[j]?=some k:=by
 by_cases e:j<L.rows.length
 ·exact ⟨_,cM e⟩
 ·rw [Nat.testBit_lt_two_pow (lL h.lt (Nat.pow_le_pow_right (nl rfl) ((Nat.not_lt.mp ‹_›))))] at hj;exact aS hj
def fM.or {a b:Nat}(x:fM L a)(y:fM L b):fM L (a|||b):=⟨Nat.or_lt_two_pow x.lt y.lt,λj w h e=>by rw [Nat.testBit_or,Bool.or_eq_true] at*;exact e.imp (x.ok j w h) (y.ok j w h)⟩
def fM.and {a b:Nat}(x:fM L a)(y:fM L b):fM L (a&&&b):=⟨Nat.and_lt_two_pow _ y.lt,λj w h e=>by rw [Nat.testBit_and,Bool.and_eq_true] at*;exact e.imp (x.ok j w h) (y.ok j w h)⟩
def fM.zero:fM L 0:=⟨Nat.two_pow_pos _,λj w h e=>by rw [Nat.zero_testBit] at e;exact nomatch e⟩
structure Val (L:Tab)(G:List Row)(t m:Nat):Prop where
 ty:Ty G t
 g5:fM L m
 at':∀p∈bq G t,∃j k,L.on m j/\L.rows[j]?=some k/\G[p]?=some k
 has:∀j,L.on m j->∃p∈bq G t,∃k,L.rows[j]?=some k/\G[p]?=some k
def Val.up {G N:List Row}{t m:Nat}(h:G<+:N)(v:Val L G t m):Val L N t m where
 ty:=v.ty.up h
 g5:=v.g5
 at':=λp hp=>by rw [tc h v.ty.lt] at hp;refine aw (v.at' p hp) λj k a b c=>?_;exact aD j k a b (bg h c)
 has:=λj hj=>by refine (tc h v.ty.lt).symm▸?_;obtain ⟨p,hp,k,b,c⟩:=v.has j hj;exact ⟨p,hp,k,b,bg h c⟩
def fZ {G:List Row}(h:G.Nodup){i j:Nat}{k:Row}(a:G[i]?=some k)(b:G[j]?=some k):i=j:=(List.getElem?_inj (dR a).1 h).mp (a.trans b.symm)
def te {G:List Row}(h:G.Nodup):∀{g:List Nat}{A:List Row},g.Nodup->(∀p∈g,∃k∈A,G[p]?=some k)->g.length<=A.length:=by
 intro z_
 induction z_ with
 |nil=>intro A _ _;exact lZ _
 |cons p g ak=>
  intro A hn hp;refine aq (hp p mS) λk hk e=>?_;(refine c9 (List.append_of_mem hk) λA1 A2 cx=>?_;subst cx);have:=ak (A:=A1++A2) (nE hn).2 λq hq=>by
   refine aq (hp q (aT _ hq)) λk' ie e'=>af k' ((pE ie).elim (λH=>?_) (λH=>?_)) e'
   ·exact List.mem_append_left _ H
   ·rcases mE H with rfl|H
    ·exact absurd (fZ h e e') λq'=>(nE hn).1 (q'▸hq)
    ·exact List.mem_append_right _ H
  simp only [List.length_append,List.length_cons] at*;exact Nat.lt_succ_of_le ‹_›
def Hv (ai:L.Good){G:List Row}(h:G.Nodup){P:Nat->Prop}(hP:∀p,P p->∃k∈L.rows,G[p]?=some k)(g:List Nat)(hg:fU P g):g.length<64:=by exact Nat.lt_of_le_of_lt (nT (te h hg.nd λp hp=>hP p (hg.all p hp)) ai.len) (nl rfl)
noncomputable def bC (l:List Nat):Nat:=l.foldr (·|||·) 0
def qD {b:Nat}:∀{l:List Nat},(bC l).testBit b=true↔∃m∈l,m.testBit b=true:=by
 intro z_
 induction z_ with
 |nil=>rw [show bC []=0 from rfl,Nat.zero_testBit];exact ⟨λh=>(aS h),λdK=>aq dK λm h _=>cj h⟩
 |cons m l ak=>rw [show bC (m::l)=m|||bC l from rfl,Nat.testBit_or,Bool.or_eq_true,ak];simp only [List.mem_cons,exists_eq_or_imp]
def NQ:∀{l:List Nat},(∀m∈l,fM L m)->fM L (bC l):=by
 intro z_
 induction z_ with
 |nil=>intro _;exact fM.zero
 |cons m l ak=>intro h;exact (h m mS).or (ak λx Y=>h x (aT _ Y))
def Hw (ai:L.Good){G N:List Row}{t m:Nat}{P:Nat->Prop}(h:au G)(u:G<+:N)(ty:Ty N t)(mk:fM L m)(ht:∀p,p∈bq N t↔P p/\pB G P p)
  (H:∀p,P p->∃j k,m.testBit j=true/\L.rows[j]?=some k/\G[p]?=some k)
  (M:∀j,L.on m j->∃p,P p/\∃k,L.rows[j]?=some k/\G[p]?=some k):Val L N t m where
 ty:=ty
 g5:=mk
 at':=λp hp=>by refine bc λeY=>?_;obtain ⟨hp,hs⟩:=(ht p).mp hp;refine aw (H p hp) λj k a b c=>eY (aD j k ⟨a,λw hw=>fI λe=>?_⟩ b (bg u c));obtain ⟨d1,r,d2,d3,d4⟩:=(ai.at' b).c6 w hw;obtain ⟨q,hq,r',e1,e2⟩:=M w ⟨e,λw' dj=>by replace dj:=d1▸dj;exact aF dj⟩;replace e1:=d2▸e1;obtain rfl:=oj e1;have:q=(f9 k).toNat:=fZ h.nd e2 (bg h.pre d4);exact (hs k c).2 q (by rw [this];exact (Int.toNat_of_nonneg d3).symm) hq
 has:=λj hj=>by
  obtain ⟨p,hp,k,a,b⟩:=M j hj;refine ⟨p,(ht p).mpr ⟨hp,λk' ie=>?_⟩,k,a,bg u b⟩;replace ie:=b▸ie;obtain rfl:=oj ie;refine ⟨λr hr=>(by replace hr:=((ai.at' a).fr)▸hr;exact aF hr),λi hi yJ=>?_⟩;generalize hd:L.c6 j=z_;induction z_ with
  |none=>exact uG (((ai.at' a).plain hd).symm.trans hi)
  |some w=>
   obtain ⟨d1,r,d2,d3,d4⟩:=(ai.at' a).c6 w hd;refine aw (H i yJ) λj' k' e1 e2 e3=>?_;replace d4:=hi▸d4;replace e3:=(bg h.pre d4)▸e3;obtain rfl:=oj e3;have:w=j':=fZ ai.nd d2 e2;have:=hj.2 w hd
   subst_vars
   replace this:=e1▸this;exact d7 this
def Ax (ai:L.Good){n:Nat}{G:List Row}{d:Sh}{pv:V}{tms:List (Nat×Nat)}(h:TT G)(room:G.length<1000000)(hi:bA pv=some ((tms.map (·.1)).map I))(hv:∀x∈tms,Val L G x.1 x.2):
  ∃t N,ae (n+3) (86,0) [.obj 0,pv] (K G d)=sv (I t) (K N d)/\Up G N 1/\Val L N t (bC (tms.map (·.2))):=by
 have hp:∀p,Of G (tms.map (·.1)) p->∃x∈tms,p∈bq G x.1:=λp VB=>aq VB λt ht hp=>by(refine bT ht λx Y cG=>?_;subst cG);exact af x Y hp
 obtain ⟨t,N,H,M,h3,h4⟩:=td (d:=d) h room hi (λt ht=>by(refine bT ht λx Y eY=>?_;subst eY);exact (hv x Y).ty) λg=>Hv ai h.t.nd (g:=g) λp h=>by exact aq (hp p h) λx Y hp=>aw ((hv x Y).at' p hp) λj k _ b c=>af k (dU b) c
 refine aD t N H M (Hw ai h.t M.pre h3 (NQ λm hm=>?_) h4 (λp h=>?_) λj hj=>?_)
 ·(refine bT hm λx Y pJ=>?_;subst pJ);exact (hv x Y).g5
 ·exact aq (hp p h) λx Y hp=>aw ((hv x Y).at' p hp) λj k a b c=>aD j k (qD.mpr ⟨x.2,mM Y,a.1⟩) b c
 ·refine aq (qD.mp hj.1) λm hm hb=>bc λVC=>?_;(refine bT hm λx Y jq=>?_;subst jq);obtain ⟨p,hp,k,a,b⟩:=(hv x Y).has j ⟨hb,λw hw=>fI λe=>by
   have:=hj.2 w hw;replace this:=(qD.mpr (af x.2 hm e))▸this;exact d7 this⟩
  exact VC (⟨p,(af x.1 (mM Y) hp),k,a,b⟩)
def tF (ai:L.Good){j b:Nat}{k:Row}(hj:L.rows[j]?=some k):(L.bits j).testBit b=true↔b=j\/L.c6 b=some j:=by
 have c:=ai.qp j (dR hj).1;unfold Tab.qp at c;simp only [Bool.and_eq_true,decide_eq_true_eq,List.all_eq_true,List.mem_range,beq_iff_eq] at c;have lt:=ai.len;by_cases hb:b<L.rows.length
 ·rw [c.2 b ((lL ‹_› ‹_›)),Bool.or_eq_true,decide_eq_true_eq,decide_eq_true_eq]
 ·refine ⟨λe=>?_,λe=>?_⟩
  ·rw [Nat.testBit_lt_two_pow (lL c.1 (Nat.pow_le_pow_right (nl rfl) ((Nat.not_lt.mp ‹_›))))] at e;exact aS e
  ·rcases e with rfl|e
   ·exact absurd (dR hj).1 hb
   ·exact aM (ai.Hu e) λk' e=>absurd (dR e).1 hb
def iu (ai:L.Good){G:List Row}{p j:Nat}{k:Row}(h:au G)(hj:L.rows[j]?=some k)(hp:G[p]?=some k):Atom G p/\Val L G p (L.bits j):=by
 have a:Atom G p:=⟨(af k hp ((ai.at' hj).un)),fI λe=>by have hl:=pC e;have:dc[p]?=some dc[p]:=cM hl;have e2:=bg h.pre this;rw [hp] at e2;exact (ai.at' hj).no p e (this.trans e2.symm)⟩
 have c:=ai.qp j (dR hj).1;unfold Tab.qp at c;simp only [Bool.and_eq_true,decide_eq_true_eq] at c;have hb:=λb=>tF ai (b:=b) hj;have dd:∀{b w:Nat},L.c6 b=some w->L.c6 w=none:=λh=>by exact aM (ai.Hu h) λk' e=>((ai.at' e).c6 _ h).1
 have on:∀i,L.on (L.bits j) i↔i=j:=λi=>by
  delta Tab.on;rw [hb];refine ⟨λVD=>ay VD λx y=>x.elim id λx=>?_,λe=>⟨.inl e,λw hw=>fI λq=>?_⟩⟩
  ·have:=y j x;replace this:=((hb j).mpr (.inl rfl))▸this;exact d7 this
  ·rcases (hb w).mp q with q|q
   ·replace hw:=e▸hw;have:=dd hw;replace this:=hw▸q▸this;exact lx this
   ·have:=dd hw;rw [q] at this;exact lx this
 refine ⟨a,a.ty,⟨c.1,λi w hw e=>?_⟩,λq hq=>?_,λi hi=>?_⟩
 ·rcases (hb w).mp e with rfl|e
  ·exact (hb i).mpr (.inr hw)
  ·have:=dd hw;rw [e] at this;exact lx this
 ·replace hq:=(g8 a)▸hq;obtain rfl:=sE hq;exact aD j k ((on j).mpr rfl) hj hp
 ·cases (on i).mp hi
  exact ⟨p,by refine (g8 a).symm▸?_;exact mS,k,hj,hp⟩
def kV {G:List Row}(h:au G):Val L G 2 0:=by have he:bq G 2=[]:=rfl;refine ⟨⟨lL (nl rfl) h.pre.length_le,λq hq=>(by rw [he] at hq;nomatch hq)⟩,fM.zero,λq hq=>(by rw [he] at hq;nomatch hq),λj hj=>?_⟩;have:=hj.1;rw [Nat.zero_testBit] at this;exact aS this
noncomputable def Lv:Tab:=⟨[.str "a" 0,.num 0 0,.num 1 0,.num 2 0,.num 3 0,.key "null",.key "undefined",.bool 1 0,.key "string",.key "number"],
 [some 8,some 9,some 9,some 9,some 9,none,none,none,none,none],[1,2,4,8,16,32,64,128,257,542]⟩
noncomputable def Ln:Tab:=⟨[.str "p" 0,.str "q" 0,.str "0" 0,.str "1" 0,.str "2" 0,.str "length" 0,.key "string",.key "number"],
 [some 6,some 6,some 6,some 6,some 6,some 6,none,none],[1,2,4,8,16,32,127,128]⟩
def Gv:Lv.Good:=GA (by kernel_rfl)
def Gn:Ln.Good:=GA (by kernel_rfl)
def ED:∀{a b:List Nat},a.Pairwise (·<·)->b.Pairwise (·<·)->(∀p,p∈a↔p∈b)->a=b:=by
 intro bz
 induction bz with
 |nil=>
  intro aJ aU aW bf
  cases aJ with
  |nil=>exact rfl
  |cons bS cb=>exact nomatch(bf bS).mpr mS
 |cons bB bH ak=>
  intro aJ aU aW bf
  cases aJ with
  |nil=>exact nomatch(bf bB).mp mS
  |cons bU kA=>
   have e:bB=bU:=by
    refine (mE ((bf bB).mp mS)).elim (λe=>?_) (λH=>?_)
    ·exact e
    ·rcases mE ((bf bU).mpr mS) with e|M
     ·exact e.symm
     ·exact absurd ((lQ aW).1 bB H) (Nat.lt_asymm ((lQ aU).1 bU M))
   subst e;refine congrArg (bB::·) (ak (lQ aU).2 (lQ aW).2 λp=>⟨λhp=>?_,λhp=>?_⟩)
   ·refine (mE ((bf p).mp (aT _ hp))).elim (λe=>?_) (λH=>?_)
    ·exact absurd e (Nat.ne_of_gt ((lQ aU).1 p hp))
    ·exact H
   ·refine (mE ((bf p).mpr (aT _ hp))).elim (λe=>?_) (λH=>?_)
    ·exact absurd e (Nat.ne_of_gt ((lQ aW).1 p hp))
    ·exact H
def th {G:List Row}{t:Nat}(h:TT G)(y:Ty G t):(t=2/\bq G t=[])\/bq G t=[t]\/∃U,G[t]?=some (.union U)/\bq G t=U/\2<=U.length/\U.Pairwise (·<·):=by
 by_cases e:t=2
 ·exact .inl ⟨e,by delta bq;exact (if_pos e).symm▸rfl⟩
 ·refine aM (⟨_,cM y.lt⟩:∃k,G[t]?=some k) λk hk=>?_;generalize hu:g9 k=z_;induction z_ with
  |none=>exact .inr (.inl (by delta bq;refine (if_neg e).symm▸hk.symm▸?_;show(g9 k).getD [t]=_;refine hu.symm▸?_;rfl))
  |some U=>
   replace hk:=(zt hu)▸hk;have hp:=sO h.t hk;have d9:t≠12:=λe=>by
    have:G[12]?=some (.union [8,9]):=bg h.t.pre rfl;replace hk:=this▸e▸hk
    cases hk
    have:=(y.at' 8 (by refine hp.symm▸?_;exact mS)).no;exact d7 this
   have:=h.un t U hk d9;exact .inr (.inr (mJ U hk hp this.2.1 this.1))
def zE {G:List Row}{t:Nat}(h:TT G)(y:Ty G t):(bq G t).Pairwise (·<·):=by
 refine (th h y).elim (λbu=>ay bu λ_ e=>?_) (λcG=>cG.elim (λe=>?_) (λcx=>n9 cx λU _ e _ e2=>?_))
 ·rw [e];exact List.Pairwise.nil
 ·rw [e];exact List.pairwise_singleton ..
 ·rw [e];exact e2
def Sz {G:List Row}{t u:Nat}(h:TT G)(y:Ty G t)(z:Ty G u)(e:bq G t=bq G u):t=u:=by
 refine (th h y).elim (λfm=>ay fm λa b=>?_) (λnh=>nh.elim (λb=>?_) (λfj=>n9 fj λU a b c _=>?_))<;>refine (th h z).elim (λeY=>ay eY λa' b'=>?_) (λlG=>lG.elim (λb'=>?_) (λeV=>n9 eV λbJ a' b' c' _=>?_))<;>replace e:=b'▸b▸e
 ·exact a.symm▸a'.symm▸rfl
 ·exact mP e
 ·subst e;simp at c'
 ·exact og e
 ·injection e
 ·subst e;simp at c'
 ·subst e;simp at c
 ·subst e;simp at c
 ·subst e;exact fZ h.t.nd a a'
def xy {G:List Row}{t u:Nat}(h:TT G)(y:Ty G t)(z:Ty G u)(e:∀p,p∈bq G t↔p∈bq G u):t=u:=Sz h y z (ED (zE h y) (zE h z) e)
variable{L:Tab}
def GB {G:List Row}{t m p:Nat}(h:au G)(v:Val L G t m):p∈bq G t↔∃j k,L.on m j/\L.rows[j]?=some k/\G[p]?=some k:=by refine ⟨v.at' p,λcG=>aw cG λj k a b c=>?_⟩;obtain ⟨q,hq,k',e1,e2⟩:=v.has j a;replace e1:=b▸e1;obtain rfl:=oj e1;refine (fZ h.nd c e2).symm▸?_;exact hq
def Hx {G:List Row}{t u m:Nat}(h:TT G)(v:Val L G t m)(w:Val L G u m):t=u:=xy h v.ty w.ty λp=>(GB h.t v).trans (GB h.t w).symm
def oO {n t m:Nat}{G:List Row}{d:Sh}(h:TT G)(room:G.length<1000000)(v:Val Lv G t m):
  ∃t' N,ae (n+4) (87,0) [.obj 0,I t] (K G d)=sv (I t') (K N d)/\Up G N 1/\Val Lv N t' (m|||64):=by
 obtain ⟨t',N,H,M,h3⟩:=Ax Gv (n:=n) (d:=d) (pv:=.tup [I t,.int 4]) (tms:=[(t,m),(4,64)]) h room rfl λx Y=>by
  rcases mE Y with rfl|Y
  ·exact v
  ·obtain rfl:=sE Y;exact (iu Gv (j:=6) h.t rfl (bg h.t.pre rfl)).2
 exact aD t' N (aa [.r H]) M (by rw [show m|||64=bC [m,64] from by show m|||64=m|||(64|||0);rw [Nat.or_zero]];exact h3)
def sG (a b:Nat):Builtin.bitOr (a:Int) (b:Int)=((a|||b:Nat):Int):=by
 have h:∀a:Nat,¬(0)<=Builtin.bitNot a:=λa=>Int.not_le.mpr (Int.lt_of_lt_of_le (Int.sub_lt_self _ (by decide)) (Int.neg_nonpos_of_nonneg (Int.natCast_nonneg a)));have n2:∀i:Int,Builtin.bitNot (Builtin.bitNot i)=i:=λi=>by show-(-i-1)-1=i;rw [Int.neg_sub,Int.sub_neg,Int.add_comm,Int.add_sub_cancel]
 show Builtin.bitNot (Builtin.bitAnd (Builtin.bitNot a) (Builtin.bitNot b))=_;rw [bitAnd_nn (h a) (h b),n2,n2,n2];rfl
def qq (a b:Nat):fy .BitOr (I a) (I b)=some (.val (I (a|||b))):=by show some (LV.val (V.int (Builtin.bitOr a b)))=_;rw [sG]
def eA (a b:Nat):fy .BitAnd (I a) (I b)=some (.val (I (a&&&b))):=by show some (LV.val (V.int (Builtin.bitAnd a b)))=_;refine (bitAnd_pp (Int.natCast_nonneg a) (Int.natCast_nonneg b)).symm▸?_;rfl
noncomputable def fV (L:Tab):List (V×V):=(L.rows.zip L.rZ).map λx=>(rv x.1,I x.2)
def Q6 {k:Row}(hk:iZ k=true):∀{rows:List Row}{bs:List Nat}{j:Nat},(∀r∈rows,iZ r=true)->rows.Nodup->rows[j]?=some k->bs.length=rows.length->
  dm (.tup (gu k)) ((rows.zip bs).map λx=>(rv x.1,I x.2))=some (I (bs.getD j 0)):=by
 intro bz
 induction bz with
 |nil=>intro aJ aU aW bf bB bH;exact aF bB
 |cons bS cb ak=>
  intro aJ aU aW bf bB bH
  cases aJ with
  |nil=>exact IM bH
  |cons bU kA=>
   show((rv bS).toD.bind λk'=>cond (D.beq k' (.tup (gu k))) (some (I bU)) _)=_;refine (jN (aW bS mS)).symm▸?_;show cond (D.jJ (gu bS) (gu k)) _ _=_
   induction aU with
   |zero=>cases bB;refine (show D.jJ (gu k) (gu k)=true from tE.mpr rfl).symm▸?_;rfl
   |succ aU=>exact (show D.jJ (gu bS) (gu k)=false from fI λe=>(nE bf).1 (tE.mp e▸dU bB)).symm▸(ak (λx Y=>aW x (aT _ Y)) (nE bf).2 bB (Nat.succ.inj bH))
def tU (ai:L.Good){j:Nat}{k:Row}(hj:L.rows[j]?=some k):dh (fV L) (rv k)=some (some (I (L.bits j))):=by
 have ho:∀r∈L.rows,iZ r=true:=λr hr=>by exact aM (List.getElem?_of_mem hr) λi hi=>(ai.at' hi).ok
 delta dh fV;rw [jN (ai.at' hj).ok];show guard (eo _ _) (some (dm _ _))=_;rw [Q6 (ai.at' hj).ok ho ai.nd hj ai.bl,show eo ((L.rows.zip L.rZ).map λx=>(rv x.1,I x.2)) (.tup (gu k))=true from ?_]
 ·rfl
 ·generalize hr:L.rows=z_;induction z_ with
  |nil=>rfl
  |cons r rows=>generalize hb:L.rZ=z_;induction z_ with
   |nil=>rfl
   |cons b bs=>show(match(rv r).toD with|some k'=>alike k' (.tup (gu k))|none=>false)=true;refine (jN (ho r (hr▸mS))).symm▸?_;rfl
def YK (a b:Int):aN .GtE (.int a) (.val (.int b))=some (decide (b<=a)):=rfl
def yR (a b:Int):aN .Lt (.int a) (.val (.int b))=some (decide (a<b)):=rfl
def lO (a:Nat):aN .Lt (I a) (.val (.int 0))=some false:=by rw [yR];exact congrArg some (dF ((Int.not_lt.mpr (Int.natCast_nonneg _))))
noncomputable def tX (t:Nat)(S:List (V×V))(pv:LV)(m:Nat)(lp:LV)(σ:St):X:=⟨ez (196,0),[nv "tab" (.val (.obj 0)),nv "t" (.val (I t)),nv "table" (.val (.dict S)),(.ofString "parts",pv),nv "mask" (.val (I m)),(.ofString "part",lp)],σ⟩
def NR (ai:L.Good){n t:Nat}{G:List Row}{d:Sh}{pv:LV}(h:au G):∀{jk:List (Nat×Nat)}{m:Nat}{lp:LV},(∀x∈jk,∃k,L.rows[x.2]?=some k/\G[x.1]?=some k)->
  ∃bG,∀Z,cF n 11 (196,0) 0 (jk.map λx=>I x.1) (tX t (fV L) pv m lp (K G d)) Z=Z .next (tX t (fV L) pv (m|||bC (jk.map λx=>L.bits x.2)) bG (K G d)):=by
 intro bz
 induction bz with
 |nil=>intro aJ aU aW;exact ⟨aU,by refine (Nat.or_zero aJ:aJ|||bC (([]:List (Nat×Nat)).map λx=>L.bits x.2)=aJ).symm▸?_;exact dk (by kernel_rfl)⟩
 |cons bf bB ak=>intro aJ aU aW;refine aq (aW bf mS) λk H M=>?_;have ht:∀Z,aZ n 11 (196,0) 0 (I bf.1) (tX t (fV L) pv aJ aU (K G d)) Z=Z .next (tX t (fV L) pv (aJ|||L.bits bf.2) (.val (I bf.1)) (K G d)):=aX [.v (aQ h M),.b (by show((dh (fV L) (rv k)).map _).map _=_;refine (tU ai H).symm▸?_;rfl:aN .NotIn (rv k) (.val (.dict (fV L)))=some false),.v (aQ h M),.v (by show(dh (fV L) (rv k)).bind id=_;refine (tU ai H).symm▸?_;rfl:cz (.val (.dict (fV L))) (rv k)=some (I (L.bits bf.2))),.l (qq aJ (L.bits bf.2))];obtain ⟨bG,h'⟩:=ak λy hy=>aW y (aT _ hy);refine ⟨bG,?_⟩;rw [show aJ|||bC ((bf::bB).map λbf=>L.bits bf.2)=aJ|||L.bits bf.2|||bC (bB.map λbf=>L.bits bf.2) from(Nat.or_assoc ..).symm];exact cD ht h'
def Ab {G:List Row}{t m:Nat}(ai:L.Good)(h:au G)(v:Val L G t m):∃jk:List (Nat×Nat),bq G t=jk.map (·.1)/\(∀x∈jk,L.on m x.2/\∃k,L.rows[x.2]?=some k/\G[x.1]?=some k)/\bC (jk.map λx=>L.bits x.2)=m:=by
 have pick:∀U:List Nat,(∀p∈U,∃j k,L.on m j/\L.rows[j]?=some k/\G[p]?=some k)->∃jk:List (Nat×Nat),U=jk.map (·.1)/\∀x∈jk,L.on m x.2/\∃k,L.rows[x.2]?=some k/\G[x.1]?=some k:=λU=>by
  induction U with
  |nil=>exact λ_=>af ([]) rfl (λx h=>cj h)
  |cons p U ih=>
   intro hp;refine bc λu9=>aq (ih λq hq=>hp q (aT _ hq)) λjk e H=>aw (hp p mS) λj k a b c=>u9 ?_;refine af ((p,j)::jk) (by refine e.symm▸?_;rfl) (λx Y=>?_);rcases mE Y with rfl|Y
   ·exact ⟨a,k,b,c⟩
   ·exact H x Y
 refine aq (pick _ v.at') λjk e H=>bX jk e H (Nat.eq_of_testBit_eq λb=>Bool.eq_iff_iff.mpr (qD.trans ⟨λCp=>aq Cp λx Y hb=>?_,λhb=>?_⟩))
 ·(refine bT Y λy hy ve=>?_;subst ve);obtain ⟨on,k,a,c⟩:=H y hy;rcases (tF ai a).mp hb with rfl|q
  ·exact on.1
  ·exact v.g5.ok b _ q on.1
 ·have get:=λj hj=>by
   refine bc λVE=>?_;obtain ⟨p,hp,k,a,c⟩:=v.has j hj;replace hp:=e▸hp;(refine bT hp λx Y kq=>?_;subst kq);obtain ⟨on,k',a',c'⟩:=H x Y;refine VE ?_;replace c':=c▸c';obtain rfl:=oj c';exact af x Y (fZ ai.nd a' a)
  generalize hd:L.c6 b=z_;induction z_ with
  |none=>(refine aq (get b ⟨hb,λw hw=>by replace hw:=hd▸hw;exact aF hw⟩) λx Y B_=>?_;subst B_);obtain ⟨k,a⟩:=v.g5.row hb;exact af _ (mM Y) ((tF ai a).mpr (.inl rfl))
  |some w=>
   generalize hw:m.testBit w=z_;induction z_ with
   |false=>(refine aq (get b ⟨hb,λw' dj=>by replace dj:=hd▸dj;obtain rfl:=oj dj;exact hw⟩) λx Y VF=>?_;subst VF);obtain ⟨k,a⟩:=v.g5.row hb;exact af _ (mM Y) ((tF ai a).mpr (.inl rfl))
   |true=>refine bc λVG=>?_;obtain ⟨kb,ab⟩:=v.g5.row hb;(refine aq (get w ⟨hw,λw' dj=>by replace dj:=(((ai.at' ab).c6 w hd).1)▸dj;exact aF dj⟩) λx Y VH=>?_;subst VH);obtain ⟨k,a⟩:=v.g5.row hw;exact VG (af _ (mM Y) ((tF ai a).mpr (.inr hd)))
def rG {G:List Row}{t:Nat}(y:Ty G t){i:Nat}(hi:mu i=true)(M:i≠2)(hu:(dc[i]?.bind g9)=none)(h:au G):t≠i:=λe=>by
 have hl:=pC hi;have:bq G i=[i]:=by delta bq;refine (if_neg M).symm▸(bg h.pre (cM hl)).symm▸(cM hl:dc[i]?=some dc[i])▸hu.symm▸?_;rfl
 have:=(y.at' i (by refine e.symm▸this.symm▸?_;exact mS)).no;replace this:=hi▸this;exact d7 this
def xd (ai:L.Good){n t m:Nat}{G:List Row}{d:Sh}(h:au G)(v:Val L G t m):ae (n+1) (196,0) [.obj 0,I t,.dict (fV L)] (K G d)=sv (I m) (K G d):=by
 refine bW (Ab ai h v) λjk e H M=>?_;have hl:=λpv=>NR ai (n:=n) (t:=t) (pv:=pv) (d:=d) (m:=0) (lp:=.unset) h λx Y=>(H x Y).2;rw [Nat.zero_or,M] at hl;have hj:(jk.map λx=>I x.1)=(bq G t).map I:=by refine e.symm▸List.map_map.symm▸?_;rfl
 replace hl:=hj▸hl;have e0:=dx t 0;have sH:=dx t 13;have e2:=dx t 2;rw [dF (rG v.ty rfl (by decide) rfl h)] at e0 sH;by_cases q:t=2
 ·subst q;obtain ⟨bG,hl⟩:=hl (.val (.list []));exact aa [.z 5,.f hl]
 ·rw [dF q] at e2;refine aM (⟨_,cM v.ty.lt⟩:∃k,G[t]?=some k) λk hk=>?_;have hu:=eS (k:=k) (b:=6) rfl;replace hu:=(FT k)▸hu;generalize hp:g9 k=z_;induction z_ with
  |none=>
   replace hu:=hp▸hu;have:bq G t=[t]:=by delta bq;rw [if_neg q,hk];show(g9 k).getD [t]=_;refine hp.symm▸?_;rfl
   replace hl:=this▸hl;exact aM (hl (.val (.list [I t]))) λbG hl=>aa [.b (lO t),.b e0,.b sH,.b e2,.v (aQ h hk),.v (cq k),.b hu,.z 1,.f hl]
  |some U=>obtain rfl:=zt hp;rw [sO h hk] at hl;obtain ⟨bG,hl⟩:=hl (.val (.tup (U.map I)));exact aa [.b (lO t),.b e0,.b sH,.b e2,.v (aQ h hk),.z 2,.v (aQ h hk),.z 2,.f hl]
inductive VA:Nat->Row->Prop
 |str {p:Nat} {s:Str} (h:16<=p):VA p (.str s 0)
 |num {p:Nat} {n:Nat} (h:16<=p):VA p (.num n 0)
 |Dz:VA 9 (.bool 1 0)
 |null:VA 5 (.key "null")
 |undef:VA 4 (.key "undefined")
 |string:VA 6 (.key "string")
 |number:VA 7 (.key "number")
noncomputable def Jp:List (Str×Nat):=[(.ofString "null",4),(.ofString "undefined",5),(.ofString "string",1),(.ofString "number",2)]
noncomputable def cY:Row->Nat
 |.str _ _=>1
 |.num _ _=>2
 |.bool _ _=>3
 |.key s=>(Jp.lookup s).getD 0
 |_=>0
noncomputable def jl:Row->Bool
 |.key s=>(Jp.lookup s).getD 0≥4
 |_=>true
def neN {a b:Nat}(h:a≠b):aN .Eq (I a) (.val (I b))=some false:=(dx a b).trans (congrArg some (dF h))
def oJ (b:Nat):aN .Eq (.int (-1)) (.val (I b))=some false:=(yP _ _).trans (congrArg some (dF λe=>absurd (Int.natCast_nonneg b) (e▸(by decide))))
def sI (a:Nat):aN .Eq (I a) (.val (I a))=some true:=(dx a a).trans (congrArg some (dT rfl))
def C2 {p:Nat}{k:Row}(h:VA p k):1<=cY k/\cY k<=5:=by induction h with
 |str h=>exact (by decide:1<=1/\1<=5)
 |num h=>exact (by decide:1<=2/\2<=5)
 |_=>decide
def DA (a b:Nat):aN .NotEq (I a) (.val (I b))=some (!decide (a=b)):=by have:=dx a b;show(kj (I a) (I b)).map not=_;rw [show kj (I a) (I b)=some (decide (a=b)) from this];rfl
def xe {p:Nat}{k:Row}(h:VA p k)(hu:jl k=true):p≠6/\p≠7:=by
 induction h with
 |str h=>exact ⟨iV h rfl,iV h rfl⟩
 |num h=>exact ⟨iV h rfl,iV h rfl⟩
 |string=>exact absurd hu (by decide)
 |number=>exact absurd hu (by decide)
 |_=>decide
def FV {p:Nat}{k:Row}(h:VA p k)(hu:jl k=false):p=6\/p=7:=by
 induction h with
 |string=>exact .inl rfl
 |number=>exact .inr rfl
 |str h=>exact d7 hu
 |num h=>exact d7 hu
 |_=>exact absurd hu (by decide)
def Iz {p:Nat}{k:Row}(h:VA p k):fr k=none:=by cases h<;>rfl
section
variable{n p q:Nat} {G:List Row} {d:Sh} {a b:Row}
def Ay (t:au G)(hk:G[p]?=some a)(h:VA p a):ae (n+2) (89,0) [.obj 0,I p] (K G d)=sv (.bool (jl a)) (K G d):=by
 have hr:=aQ t hk;have lit:∀{b:Bool},ae (n+1) (88,0) [.obj 0,I p] (K G d)=sv (.bool b) (K G d)->6<=p->ae (n+2) (89,0) [.obj 0,I p] (K G d)=sv (.bool b) (K G d):=λhb h6=>aa [.b (neN (iV h6 rfl:p≠4)),.z 1,.b (neN (iV h6 rfl:p≠5)),.z 1,.r hb]
 induction h with
 |str h=>exact lit (aa [.v hr,.z 2]) (nT (nl rfl) h)
 |num h=>exact lit (aa [.v hr,.z 2]) (nT (nl rfl) h)
 |Dz=>exact lit (aa [.v hr,.z 2]) (by decide)
 |null=>exact aa [.z 4]
 |undef=>exact aa [.z 2]
 |string=>exact lit (aa [.v hr,.z 2]) ((nR _))
 |number=>exact lit (aa [.v hr,.z 2]) ((lS _))
def oS (t:au G)(hk:G[p]?=some a)(h:VA p a):ae (n+2) (95,0) [.obj 0,I p] (K G d)=sv (I (cY a)) (K G d):=by
 have hr:=aQ t hk
 induction h with
 |str h=>exact aa [.v hr,.z 9]
 |num h=>exact aa [.v hr,.z 9]
 |Dz=>exact aa [.v hr,.z 3]
 |null=>exact aa [.v hr,.z 3]
 |undef=>exact aa [.v hr,.z 3]
 |string=>exact aa [.v hr,.z 3]
 |number=>exact aa [.v hr,.z 3]
def wo {f:Nat}:ae (n+1) (96,0) [I f] (K G d)=sv (.bool (decide (f=4)||decide (f=5)||decide (f=6))) (K G d):=by
 by_cases h4:f=4
 ·subst h4;exact aa [.z 2]
 ·by_cases h5:f=5
  ·subst h5;exact aa [.z 4]
  ·exact (dF h4).symm▸(dF h5).symm▸(aa [.b (neN h4),.z 1,.b (neN h5),.z 1,.b (dx f 6)])
noncomputable def k_ (a b:Row):Nat:=if(4<=cY a\/4<=cY b)\/cY a≠cY b then 0 else if jl a=true then(if jl b=true then 0 else 1) else 2
def Q7 {f g:Nat}(hf:f<=5)(hg:g<=5):ae (n+1) (108,0) [I p,I q,I f,I g] (K G d)=sv (I 0) (K G d):=by
 have f6:=neN (vy hf rfl:f≠6);by_cases h5:f=5
 ·subst h5;exact aa [.z 1,.b (neN (vy hg rfl:g≠6)),.z 1]
 ·exact aa [.b (neN h5),.b f6]
def NS (t:au G)(ha:G[p]?=some a)(hb:G[q]?=some b)(va:VA p a)(vb:VA q b)(f4:cY a<4)(g4:cY b<4):ae (n+3) (109,0) [.obj 0,I p,I q,I (cY a),I (cY b)] (K G d)=sv (I (k_ a b)) (K G d):=by
 have e:=DA (cY a) (cY b);have ua:=Ay (n:=n) (d:=d) t ha va;have ub:=Ay (n:=n) (d:=d) t hb vb;delta k_;by_cases hf:cY a=cY b
 ·rw [if_neg (λh=>h.elim (λh=>h.elim (Nat.not_le.mpr f4) (Nat.not_le.mpr g4)) λh=>h hf)];replace e:=(dT hf)▸e;generalize hu:jl a=z_;induction z_ with
  |true=>
   rw [hu] at ua;refine (if_pos rfl).symm▸?_;generalize hv:jl b=z_;induction z_ with
   |true=>replace ub:=hv▸ub;exact aa [.b e,.r ua,.r ub]
   |false=>
    replace ub:=hv▸ub;rcases FV vb hv with rfl|rfl
    ·exact aa [.b e,.r ua,.r ub,.b (neN (xe va hu).1),.b (neN (xe va hu).2),.z 1]
    ·exact aa [.b e,.r ua,.r ub,.b (neN (xe va hu).1),.b (neN (xe va hu).2),.z 2]
  |false=>
   replace ua:=hu▸ua;refine (if_neg gi).symm▸?_;rcases FV va hu with rfl|rfl
   ·exact aa [.b e,.r ua,.z 1]
   ·exact aa [.b e,.r ua,.z 2]
 ·rw [if_pos (.inr hf)];replace e:=(dF hf)▸e;exact aa [.b e]
def Q8 (t:au G)(ha:G[p]?=some a)(hb:G[q]?=some b)(va:VA p a)(vb:VA q b)(vR:p≠q):ae (n+4) (111,0) [.obj 0,I p,I q] (K G d)=sv (I (k_ a b)) (K G d):=by
 refine bc λbu=>aq (tD (n:=n+2) (d:=d) t hb) λi H M=>aq (tD (n:=n+2) (d:=d) t ha) λj h3 h4=>?_;have hi:i=-1:=M.elim (·.1) λ⟨r,_,_,h,_⟩=>by replace h:=(Iz vb)▸h;exact aF h
 have hj:j=-1:=h4.elim (·.1) λ⟨r,_,_,h,_⟩=>by replace h:=(Iz va)▸h;exact aF h
 subst hi hj;refine bu ?_;have ba:=C2 va;have bb:=C2 vb;have a0:=neN (iV ba.1 rfl:cY a≠0);have b0:=neN (iV bb.1 rfl:cY b≠0);have a7:=neN (vy ba.2 rfl:cY a≠7);have b7:=neN (vy bb.2 rfl:cY b≠7);have na:=wo (n:=n+2) (G:=G) (d:=d) (f:=cY a);have nb:=wo (n:=n+2) (G:=G) (d:=d) (f:=cY b);have nn:=Q7 (n:=n+2) (G:=G) (d:=d) (p:=p) (q:=q) ba.2 bb.2;have six:∀{k:Row},cY k<=5->(decide (cY k=4)||decide (cY k=5)||decide (cY k=6))=decide (4<=cY k):=λh=>Bool.eq_iff_iff.mpr (by simp only [Bool.or_eq_true,decide_eq_true_eq];exact f6 ‹_›);rw [six ba.2] at na;rw [six bb.2] at nb;by_cases h:4<=cY a
 ·rw [show k_ a b=0 from if_pos (.inl (.inl h))];replace na:=(dT h)▸na;exact aa [.b (neN vR),.r H,.b (oJ p),.r h3,.b (oJ q),.r (oS (n:=n+1) (d:=d) t ha va),.r (oS (n:=n+1) (d:=d) t hb vb),.b a0,.b b0,.r na,.r nn]
 ·rw [dF h] at na;by_cases h':4<=cY b
  ·rw [show k_ a b=0 from if_pos (.inl (.inr h'))];replace nb:=(dT h')▸nb;exact aa [.b (neN vR),.r H,.b (oJ p),.r h3,.b (oJ q),.r (oS (n:=n+1) (d:=d) t ha va),.r (oS (n:=n+1) (d:=d) t hb vb),.b a0,.b b0,.r na,.r nb,.r nn]
  ·rw [dF h'] at nb;have hv:=NS (n:=n) (d:=d) t ha hb va vb (Nat.not_le.mp h) (Nat.not_le.mp h');exact aa [.b (neN vR),.r H,.b (oJ p),.r h3,.b (oJ q),.r (oS (n:=n+1) (d:=d) t ha va),.r (oS (n:=n+1) (d:=d) t hb vb),.b a0,.b b0,.r na,.r nb,.b a7,.b b7,.r hv]
end
section
variable{n p q:Nat} {G N:List Row} {d:Sh} {a b:Row}
noncomputable def lX (q:Nat)(kept:V)(out:List V)(held:Bool)(one case:LV)(σ:St):X:=⟨ez (112,0),[nv "tab" (.val (.obj 0)),nv "kept" (.val kept),nv "t" (.val (I q)),nv "out" (.ml out),nv "held" (.val (.bool held)),(.ofString "one",one),(.ofString "case",case)],σ⟩
noncomputable def yp (c p q:Nat):LV:=if c=0 then .val .none else if c=1 then .ml [I p] else if c=2 then .ml [I q] else .ml [I p,I q]
def xA {c:Nat}(hc:ae n (111,0) [.obj 0,I p,I q] (K G d)=sv (I c) (K N d))(h3:c<=3):ae (n+1) (112,0) [.obj 0,.list [I p],I q] (K G d)=some (yp c p q,K N d):=by
 have go:∀{out:List V}{held:Bool},(∀Z,aZ n 11 (112,0) 0 (I p) (lX q (.list [I p]) [] false .unset .unset (K G d)) Z=Z .next (lX q (.list [I p]) out held (.val (I p)) (.val (I c)) (K N d)))->
   ∀Z,cF n 11 (112,0) 0 [I p] (lX q (.list [I p]) [] false .unset .unset (K G d)) Z=Z .next (lX q (.list [I p]) out held (.val (I p)) (.val (I c)) (K N d)):=λh=>cD h (dk (by kernel_rfl))
 rcases ((C_ (Nat.lt_succ_of_le ‹_›)):c=0\/c=1\/c=2\/c=3) with rfl|rfl|rfl|rfl
 ·have h:∀Z,aZ n 11 (112,0) 0 (I p) (lX q (.list [I p]) [] false .unset .unset (K G d)) Z=Z (.ret (.val .none)) (lX q (.list [I p]) [] false (.val (I p)) (.val (I 0)) (K N d)):=aX [.r hc,.z 1];have h':=j0 (T:=[]) (by kernel_rfl) h;exact aa [.z 1,.f h']
 ·have h':=go (out:=[I p]) (held:=true) (aX [.r hc,.z 4]);exact aa [.z 1,.f h']
 ·show _=some (LV.ml [I q],_);exact aa [.z 1,.f (go (out:=[]) (held:=false) (aX [.r hc,.z 3] (by kernel_rfl))),.z 1]
 ·show _=some (LV.ml [I p,I q],_);exact aa [.z 1,.f (go (out:=[I p]) (held:=false) (aX [.r hc,.z 4] (by kernel_rfl))),.z 1]
noncomputable def mX (p q:Nat)(kept one:LV)(σ:St):X:=⟨ez (114,0),[nv "tab" (.val (.obj 0)),nv "s" (.val (I p)),nv "t" (.val (I q)),(.ofString "one",one),(.ofString "kept",kept)],σ⟩
noncomputable def Jq (c p q:Nat):LV:=if c=1 then .val (.list [I p]) else if c=2 then .val (.list [I q]) else .val (.list [I p,I q])
def IA {v:V}{σ:St}{vars:bL}:∀Z,eN n 39 (114,0) 0 vars [v] σ Z=Z [v] σ:=fY (ew []:∀Z,fz n 39 (114,0) 0 vars v σ Z=Z (some v) σ) (jc (by kernel_rfl))
def GC (t:au G)(hk:G[p]?=some a)(h7:rk a≠7)(h8:rk a≠8):ae (n+1) (113,0) [.obj 0,I p] (K G d)=sv (.tup [I p]) (K G d):=aa [.v (aQ t hk),.v (cq a),.b (eS (dF h7)),.v (cq a),.b (eS (dF h8))]
def Ca {c:Nat}(H:0<c)(hl:ae n (112,0) [.obj 0,.list [I p],I q] (K G d)=some (yp c p q,K N d)):
  ∀Z,cF n 11 (114,0) 0 [I q] (mX p q (.ml [I p]) .unset (K G d)) Z=Z .next (mX p q (Jq c p q) (.val (I q)) (K N d)):=by
 refine cD ?_ (dk (by kernel_rfl));delta Jq;delta yp at hl;rw [if_neg ((Nat.ne_of_gt ‹_›):c≠0)] at hl;by_cases c1:c=1
 ·rw [if_pos c1] at hl⊢;exact aX [.r hl,.z 1]
 ·rw [if_neg c1] at hl⊢;by_cases c2:c=2
  ·rw [if_pos c2] at hl⊢;exact aX [.r hl,.z 1]
  ·rw [if_neg c2] at hl⊢;exact aX [.r hl,.z 1]
noncomputable def C3 (c p q:Nat):Nat:=if c=0 then 2 else if c=1 then p else q
def zd {c:Nat}(hp:ae n (113,0) [.obj 0,I p] (K G d)=sv (.tup [I p]) (K G d))(hq:ae n (113,0) [.obj 0,I q] (K G d)=sv (.tup [I q]) (K G d))
  (hl:ae n (112,0) [.obj 0,.list [I p],I q] (K G d)=some (yp c p q,K N d)) (h3:c<3):ae (n+1) (114,0) [.obj 0,I p,I q] (K G d)=sv (I (C3 c p q)) (K N d):=by
 have hc:=IA (n:=n) (v:=I p) (σ:=K G d) (vars:=(mX p q .unset .unset (K G d)).vars);rcases ((XF ‹_›):c=0\/c=1\/c=2) with rfl|rfl|rfl
 ·have h:∀Z,aZ n 11 (114,0) 0 (I q) (mX p q (.ml [I p]) .unset (K G d)) Z=Z (.ret (.val (I 2))) (mX p q (.val .none) (.val (I q)) (K N d)):=aX [.r hl,.z 1];have h':=j0 (T:=[]) (by kernel_rfl) h;exact aa [.r hp,.z 2,.c hc,.r hq,.z 1,.f h']
 ·have h':=Ca (nl rfl) hl;exact aa [.r hp,.z 2,.c hc,.r hq,.z 1,.f h',.z 3]
 ·have h':=Ca (nl rfl) hl;exact aa [.r hp,.z 2,.c hc,.r hq,.z 1,.f h',.z 3]
def xU (h:VA p a):rk a≠7/\rk a≠8:=by
 induction h with
 |str h=>exact (by decide:3≠7/\3≠8)
 |num h=>exact (by decide:4≠7/\4≠8)
 |_=>decide
noncomputable def lP (p q:Nat)(a b:Row):Nat:=if p=q then p else C3 (k_ a b) p q
def FW (a b:Row):k_ a b<3:=by
 delta k_
 repeat' split
 all_goals decide
def Q9 (t:au G)(ha:G[p]?=some a)(hb:G[q]?=some b)(va:VA p a)(vb:VA q b):ae (n+6) (114,0) [.obj 0,I p,I q] (K G d)=sv (I (lP p q a b)) (K G d):=by
 have hp:=GC (n:=n+4) (d:=d) t ha (xU va).1 (xU va).2;have hq:=GC (n:=n+4) (d:=d) t hb (xU vb).1 (xU vb).2;delta lP;by_cases e:p=q
 ·subst e;exact (if_pos rfl).symm▸(zd hp hq (xA (aa [.b (sI p)]:ae (n+4) (111,0) [.obj 0,I p,I p] (K G d)=sv (I 1) (K G d)) (nl rfl)) (nl rfl))
 ·exact (if_neg e).symm▸(zd hp hq (xA (Q8 t ha hb va vb e) (Nat.le_of_lt (FW a b))) (FW a b))
end
noncomputable def yS:Row->Bool
 |.str _ f=>f==0
 |.num _ f=>f==0
 |.bool b f=>b==1&&f==0
 |.key s=>s==.ofString "null"||s==.ofString "undefined"||s==.ofString "string"||s==.ofString "number"
 |_=>false
def Ac {G:List Row}(t:au G){p:Nat}{k:Row}(hk:G[p]?=some k)(h:rk k=3\/rk k=4):16<=p:=by
 by_cases e:16<=p
 ·exact e
 ·exfalso;have hl:p<dc.length:=Nat.lt_of_not_le e;have e2:=bg t.pre (cM hl);rw [hk] at e2;have:dc.all (λk=>!(decide (rk k=3)||decide (rk k=4)))=true:=by kernel_rfl
  have:=aE this _ (List.getElem_mem hl);rw [<-oj e2] at this;rw [Bool.not_eq_true',Bool.or_eq_false_iff,decide_eq_false_iff_not,decide_eq_false_iff_not] at this;exact h.elim this.1 this.2
def xV {G:List Row}(t:au G){p:Nat}{k:Row}(hk:G[p]?=some k)(h:yS k=true):VA p k:=by
 induction k with
 |str s f=>obtain rfl:=bE h;exact .str (Ac t hk (.inl rfl))
 |num s f=>obtain rfl:=bE h;exact .num (Ac t hk (.inr rfl))
 |bool b f=>
  have h:=iD h;obtain rfl:=bE h.1;obtain rfl:=bE h.2
  cases fZ t.nd hk (bg t.pre (rfl:dc[9]?=_))
  exact .Dz
 |key s=>
  have at':∀{i:Nat}{s':Str},dc[i]?=some (.key s')->(s==s')=true->s=s'/\p=i:=λhi e=>by obtain rfl:=bE e;exact ⟨rfl,fZ t.nd hk (bg t.pre hi)⟩
  simp only [yS,Bool.or_eq_true] at h;rcases h with((h|h)|h)|h
  ·(refine ay (at' (i:=5) rfl h) λpW ve=>?_;subst pW;subst ve);exact .null
  ·(refine ay (at' (i:=4) rfl h) λuR pV=>?_;subst uR;subst pV);exact .undef
  ·(refine ay (at' (i:=6) rfl h) λuK Xq=>?_;subst uK;subst Xq);exact .string
  ·(refine ay (at' (i:=7) rfl h) λkq mW=>?_;subst kq;subst mW);exact .number
 |_=>exact aS h
noncomputable def Tab.code (L:Tab)(i j:Nat):Nat:=if L.c6 i=some j then 1 else if L.c6 j=some i then 2 else 0
structure Tab.Vals (L:Tab):Prop where
 va:∀k∈L.rows,yS k=true
 code:∀i j a b,L.rows[i]?=some a->L.rows[j]?=some b->i≠j->k_ a b=L.code i j
def GD {L:Tab}(h:(L.rows.all yS&&(List.range L.rows.length).all λi=>(List.range L.rows.length).all λj=>(L.rows[i]?).elim true λa=>(L.rows[j]?).elim true λb=>i==j||k_ a b==L.code i j)=true):L.Vals:=by simp only [Bool.and_eq_true,List.all_eq_true,List.mem_range] at h;refine ⟨h.1,λi j a b ha hb DB=>?_⟩;have:=h.2 i (dR ha).1 j (dR hb).1;rw [ha,hb] at this;simp only [Option.elim,Bool.or_eq_true,beq_iff_eq] at this;exact this.resolve_left DB
def Vv:Lv.Vals:=GD (by kernel_rfl)
def Vn:Ln.Vals:=GD (by kernel_rfl)
section
variable{n s t:Nat} {G:List Row} {d:Sh} {L:Tab}
noncomputable def wX (s t:Nat)(g:List Nat)(one other met:LV)(σ:St):X:=⟨ez (115,0),[nv "tab" (.val (.obj 0)),nv "s" (.val (I s)),nv "t" (.val (I t)),nv "found" (.md (gd g)),(.ofString "one",one),(.ofString "other",other),(.ofString "met",met)],σ⟩
def Jr {g:List Nat}(h:g.length<=1000):kW (.md (gd g))=some (I g.length):=by show(guard (eo (gd g) (.int 0)) (some (gd g).length)).bind _=_;refine zZ.symm▸(show(gd g).length=g.length from by delta gd;rw [lM]).symm▸?_;show(guard (aY g.length) _)=_;rw [dy ((nT ‹_› (nl rfl)))];rfl
noncomputable def jO (g:List Nat)(m:Nat):List Nat:=if m=2 then g else jv g m
def FX {P:Nat->Prop}{g:List Nat}{m:Nat}(h:fU P g)(hm:m≠2->P m):fU P (jO g m):=by
 delta jO;by_cases e:m=2
 ·rw [if_pos e];exact h
 ·rw [if_neg e];exact h.add (hm e)
def Po {g:List Nat}{m p:Nat}:p∈jO g m↔p∈g\/(m=p/\m≠2):=by
 delta jO;by_cases e:m=2
 ·rw [if_pos e];exact ⟨.inl,λh=>h.elim id λh=>absurd e h.2⟩
 ·rw [if_neg e,Aa];exact or_congr_right ⟨λh=>⟨h.symm,e⟩,λh=>h.1.symm⟩
def Hy {q m:Nat}{g:List Nat}{other met:LV}{σ σ':St}{p:Nat}(hm:ae n (114,0) [.obj 0,I p,I q] σ=sv (I m) σ')(hl:(jO g m).length<64)(hg:g.length<64):
  ∀Z,aZ n 10 (115,0) 1 (I q) (wX s t g (.val (I p)) other met σ) Z=Z .next (wX s t (jO g m) (.val (I p)) (.val (I q)) (.val (I m)) σ'):=by
 have e:=DA m 2;have gt:∀{g:List Nat},g.length<64->aN .Gt (I g.length) (.val (.int 200))=some false:=λh=>by rw [vN];exact congrArg some (dF (Int.not_lt.mpr ((Int.ofNat_le (n:=200)).mpr (lC h rfl))))
 delta jO at hl⊢;by_cases M:m=2
 ·rw [dT M] at e;rw [if_pos M] at hl⊢;exact aX [.r hm,.b e,.v (Jr (g:=g) (lC hl rfl)),.b (gt hl)]
 ·rw [dF M] at e;rw [if_neg M] at hl⊢;exact aX [.r hm,.b e,.e (Ht m (lC hg rfl)),.v (Jr (g:=jv g m) (lC hl rfl)),.b (gt hl)]
def Q_ {p:Nat}{f:Nat->Nat}{P:Nat->Prop}{σ:St}(iK:∀g,fU P g->g.length<64):∀{qs g:List Nat}{other met:LV},fU P g->(∀q∈qs,ae n (114,0) [.obj 0,I p,I q] σ=sv (I (f q)) σ/\(f q≠2->P (f q)))->
  ∃g' Ba C4,(∀Z,cF n 10 (115,0) 1 (qs.map I) (wX s t g (.val (I p)) other met σ) Z=Z .next (wX s t g' (.val (I p)) Ba C4 σ))/\fU P g'/\∀x,x∈g'↔x∈g\/∃q∈qs,f q=x/\x≠2:=by
 intro z_
 induction z_ with
 |nil=>intro g other met h _;exact gf g other met (dk (by kernel_rfl)) h (λx=>⟨.inl,λh=>h.elim id λiw=>aq iw λq h _=>cj h⟩)
 |cons q qs ak=>
  intro g other met h hq;refine fA (ak (other:=.val (I q)) (met:=.val (I (f q))) (FX h (hq q mS).2) λx Y=>hq x (aT _ Y)) λg' o' m' a b c=>gf g' o' m' (cD (Hy (met:=met) (hq q mS).1 (iK _ (FX h (hq q mS).2)) (iK _ h)) a) b (λx=>?_);rw [c,Po,or_assoc];refine or_congr_right ⟨λh=>h.elim (λh=>(bX q mS h.1 (h.1▸h.2))) λpS=>aq pS λy H M=>(af y (aT _ H) M),λCB=>aq CB λy H M=>?_⟩;rcases mE H with rfl|H
  ·exact .inl ⟨M.1,M.1▸M.2⟩
  ·exact .inr (af y H M)
def Ra {f:Nat->Nat->Nat}{P:Nat->Prop}{qs:List Nat}(iK:∀g,fU P g->g.length<64)(hp:ae n (80,0) [.obj 0,I t] (K G d)=sv (.tup (qs.map I)) (K G d)):∀{U g:List Nat}{one other met:LV},fU P g->(∀p∈U,∀q∈qs,ae n (114,0) [.obj 0,I p,I q] (K G d)=sv (I (f p q)) (K G d)/\(f p q≠2->P (f p q)))->
  ∃g' Xr Ba C4,(∀Z,cF n 11 (115,0) 0 (U.map I) (wX s t g one other met (K G d)) Z=Z .next (wX s t g' Xr Ba C4 (K G d)))/\fU P g'/\∀x,x∈g'↔x∈g\/∃p∈U,∃q∈qs,f p q=x/\x≠2:=by
 intro z_
 induction z_ with
 |nil=>intro g one other met h _;exact x8 g one other met (dk (by kernel_rfl)) h (λx=>⟨.inl,λh=>h.elim id λpK=>aq pK λq h _=>cj h⟩)
 |cons p U ak=>
  intro g one other met h hq;refine fA (Q_ (n:=n) (s:=s) (t:=t) iK (other:=other) (met:=met) h (hq p mS)) λg1 o1 m1 a b c=>?_;have ht:∀Z,aZ n 11 (115,0) 0 (I p) (wX s t g one other met (K G d)) Z=Z .next (wX s t g1 (.val (I p)) o1 m1 (K G d)):=aX [.r hp,.z 1,.f a];refine gJ (ak (one:=.val (I p)) (other:=o1) (met:=m1) b λx Y=>hq x (aT _ Y)) λg' o' x' y' a' b' c'=>x8 g' o' x' y' (cD ht a') b' (λx=>?_);rw [c',c,or_assoc];refine or_congr_right ⟨λh=>h.elim (λh=>(af p mS h)) λmW=>aq mW λy H M=>(af y (aT _ H) M),λuT=>aq uT λy H M=>?_⟩;rcases mE H with rfl|H
  ·exact .inl M
  ·exact .inr (af y H M)
def oT (d:Sh)(ai:L.Good){a b:Nat}(h:au G)(v:Val L G t a)(w:Val L G t b):a=b:=by have e:=(xd (d:=d) ai h v).symm.trans (xd (n:=0) ai h w);simp only [Option.some.injEq,Prod.mk.injEq,LV.val.injEq,V.int.injEq,and_true] at e;exact Int.natCast_inj.mp e
def VI (ai:L.Good)(W:L.Vals){a b:Nat}(h:TT G)(room:G.length<1000000)(T:Val L G s a)(vt:Val L G t b):
  ∃r N,ae (n+7) (115,0) [.obj 0,I s,I t] (K G d)=sv (I r) (K N d)/\Up G N 1/\Val L N r (a&&&b):=by
 by_cases J_:s=t
 ·subst J_;have:a=b:=oT d ai h.t T vt;subst this;exact aD s G (aa [.b (sI s)]) ((Up.refl h).mono (lZ _)) (by rw [Nat.and_self];exact T)
 ·let f:Nat->Nat->Nat:=λp q=>lP p q (G.getD p (.param 0)) (G.getD q (.param 0))
  let P:Nat->Prop:=λx=>∃j k,L.rows[j]?=some k/\G[x]?=some k/\(a&&&b).testBit j=true
  have iK:=Hv (P:=P) ai h.t.nd λp BO=>aw BO λj k H M _=>af k (dU H) M;have gD:∀{p:Nat}{k:Row},G[p]?=some k->G.getD p (.param 0)=k:=λh=>by refine List.getD_eq_getElem?_getD.symm▸h.symm▸?_;rfl
  have met:∀p∈bq G s,∀q∈bq G t,ae (n+6) (114,0) [.obj 0,I p,I q] (K G d)=sv (I (f p q)) (K G d)/\(f p q≠2->P (f p q)):=λp hp q hq=>by
   refine aw (T.at' p hp) λi ka a1 a2 a3=>aw (vt.at' q hq) λj kb b1 b2 b3=>?_;have fe:f p q=lP p q ka kb:=by show lP p q _ _=_;exact (gD a3).symm▸(gD b3).symm▸rfl
   refine fe.symm▸(⟨Q9 h.t a3 b3 (xV h.t a3 (W.va _ (dU a2))) (xV h.t b3 (W.va _ (dU b2))),λhn=>?_⟩);unfold lP at hn⊢;have bit:∀{j},a.testBit j=true->b.testBit j=true->(a&&&b).testBit j=true:=λx y=>by rw [Nat.testBit_and,x,y];rfl
   by_cases e:p=q
   ·rw [if_pos e];subst e;replace b3:=a3▸b3;obtain rfl:=oj b3;obtain rfl:=fZ ai.nd a2 b2;exact aD i ka a2 a3 (bit a1.1 b1.1)
   ·rw [if_neg e] at hn⊢;have DB:i≠j:=λq'=>by subst q';replace b2:=a2▸b2;(injection b2 with q_;subst q_);exact e (fZ h.t.nd a3 b3)
    rw [W.code i j ka kb a2 b2 DB] at hn⊢;delta Tab.code at hn⊢;by_cases d1:L.c6 i=some j
    ·rw [if_pos d1];exact aD i ka a2 a3 (bit a1.1 (vt.g5.ok i j d1 b1.1))
    ·rw [if_neg d1] at hn⊢;by_cases d2:L.c6 j=some i
     ·exact (if_pos d2).symm▸aD j kb b2 b3 (bit (T.g5.ok j i d2 a1.1) b1.1)
     ·rw [if_neg d2] at hn;exact absurd rfl hn
  refine bc λVJ=>bc λVK=>bc λVL=>gJ (Ra (n:=n+6) (s:=s) (d:=d) iK (nI (d:=d) h.t vt.ty.lt) (one:=.unset) (other:=.unset) (met:=.unset) ⟨List.Pairwise.nil,λp hp=>cj hp⟩ met) λg o1 o2 o3 hl hf hg=>?_;have at':=λp hp=>by exact aw (hf.all p hp) λj k H M _=>(iu ai h.t H M).1
  have DC:∀p,Of G (bZ ltN g) p↔p∈g:=λp=>⟨λVM=>aq VM λx Y hp=>by have Y:=oR.mp Y;replace hp:=(g8 (at' x Y))▸hp;obtain rfl:=sE hp;exact Y,λhp=>(af p (oR.mpr hp) (by refine (g8 (at' p hp)).symm▸?_;exact mS))⟩
  refine hZ (td (n:=n+3) (d:=d) (pv:=.list ((bZ ltN g).map I)) h room rfl (λx Y=>(at' x (oR.mp Y)).ty) λg' kK=>iK g' ⟨kK.nd,λp hp=>hf.all p ((DC p).mp (kK.all p hp))⟩) λr N H M h3 h4=>VL (VK (VJ (aD r N ?_ M ?_)))
  ·exact aa [.b (neN J_),.b (neN (show t≠1 from rG vt.ty rfl (by decide) rfl h.t)),.b (neN (show s≠1 from rG T.ty rfl (by decide) rfl h.t)),.r (nI (n:=n+5) (d:=d) h.t T.ty.lt),.z 1,.f hl,.l (sN (iK g hf)),.r H]
  ·refine Hw ai h.t M.pre h3 (T.g5.and vt.g5) h4 (λp hp=>?_) λj hj=>?_
   ·exact aw (hf.all p ((DC p).mp hp)) λj k e1 e2 e3=>aD j k e3 e1 e2
   ·have hb:=hj.1;rw [Nat.testBit_and,Bool.and_eq_true] at hb;have got:∀{p q x:Nat}{k:Row},p∈bq G s->q∈bq G t->f p q=x->L.rows[j]?=some k->G[x]?=some k->∃p,Of G (bZ ltN g) p/\∃k,L.rows[j]?=some k/\G[p]?=some k:=λ{p q x k} hp hq Y g0 hk=>by
     refine ⟨x,(DC x).mpr ((hg x).mpr (.inr ⟨p,hp,q,hq,Y,λe=>?_⟩)),k,g0,hk⟩;subst e;have e2:G[2]?=some (.key "never"):=bg h.t.pre rfl;replace e2:=hk▸e2;obtain rfl:=oj e2;exact (ai.at' g0).no 2 rfl rfl
    have fe:∀{p q:Nat}{ka kb:Row},G[p]?=some ka->G[q]?=some kb->f p q=lP p q ka kb:=λa3 b3=>by show lP _ _ _ _=_;exact (gD a3).symm▸(gD b3).symm▸rfl
    generalize hd:L.c6 j=z_;induction z_ with
    |none=>refine bc λVN=>?_;obtain ⟨p,hp,k,k1,k2⟩:=T.has j ⟨hb.1,λw hw=>by replace hw:=hd▸hw;exact nomatch hw⟩;obtain ⟨q,hq,k',k3,k4⟩:=vt.has j ⟨hb.2,λw hw=>by replace hw:=hd▸hw;exact nomatch hw⟩;replace k3:=k1▸k3;obtain rfl:=oj k3;obtain rfl:=fZ h.t.nd k2 k4;exact VN (got hp hq ((fe k2 k2).trans (if_pos rfl)) k1 k2)
    |some w=>
     have hw:=hj.2 w hd;rw [Nat.testBit_and,Bool.and_eq_false_iff] at hw;have dw:∀{k:Row},L.rows[j]?=some k->L.c6 w=none:=λh=>((ai.at' h).c6 w hd).1;by_cases ha:a.testBit w=true
     ·have yT:=hw.resolve_left λq=>by replace q:=ha▸q;exact d7 q
      obtain ⟨q,hq,k,k1,k2⟩:=vt.has j ⟨hb.2,λw' dj=>by rw [hd] at dj;obtain rfl:=oj dj;exact yT⟩;obtain ⟨p,hp,k',k3,k4⟩:=T.has w ⟨ha,λw' dj=>by replace dj:=(dw k1)▸dj;exact nomatch dj⟩;have vS:w≠j:=λe=>by have:=dw k1;replace this:=hd▸e▸this;cases this
      refine got hp hq ?_ k1 k2;rw [fe k4 k2];delta lP;rw [if_neg (λe=>by subst e;replace k2:=k4▸k2;obtain rfl:=oj k2;exact vS (fZ ai.nd k3 k1)),W.code w j k' k k3 k1 vS];delta Tab.code;rw [if_neg (by refine (dw k1).symm▸?_;exact λe=>aF e),if_pos hd];rfl
     ·obtain ⟨p,hp,k,k1,k2⟩:=T.has j ⟨hb.1,λw' dj=>by replace dj:=hd▸dj;obtain rfl:=oj dj;exact (fI ha)⟩;by_cases yT:b.testBit w=true
      ·obtain ⟨q,hq,k',k3,k4⟩:=vt.has w ⟨yT,λw' dj=>by replace dj:=(dw k1)▸dj;exact nomatch dj⟩;have vS:j≠w:=λe=>by have:=dw k1;replace this:=hd▸e.symm▸this;cases this
       refine got hp hq ?_ k1 k2;rw [fe k2 k4];unfold lP;rw [if_neg (λe=>by subst e;replace k2:=k4▸k2;obtain rfl:=oj k2;exact vS (fZ ai.nd k1 k3)),W.code j w k k' k1 k3 vS];unfold Tab.code;refine (if_pos hd).symm▸?_;rfl
      ·obtain ⟨q,hq,k',k3,k4⟩:=vt.has j ⟨hb.2,λw' dj=>by replace dj:=hd▸dj;obtain rfl:=oj dj;exact fI yT⟩;replace k3:=k1▸k3;obtain rfl:=oj k3;obtain rfl:=fZ h.t.nd k2 k4;exact got hp hq ((fe k2 k2).trans (if_pos rfl)) k1 k2
end
section
variable{n s t:Nat} {G N:List Row} {d:Sh} {L:Tab} {pv:V}
def sJ (x a b:Nat):nW (I x) [I a,I b]=some (decide (a=x)||decide (b=x)):=by
 show some ([PyData.int a,PyData.int b].any λe=>PyData.eqv e (.int x))=_;have h:∀a:Nat,PyData.eqv (.int a) (.int x)=decide (a=x):=λa=>by
  show(a==(x:Int))=_;by_cases e:a=x
  ·rw [dT e,e];exact bI rfl
  ·rw [dF e];exact bN λh=>e (Int.natCast_inj.mp h)
 rw [List.any_cons,List.any_cons,List.any_nil,h,h,Bool.or_false]
noncomputable def iX (pv:V)(lt out:LV)(σ:St):X:=⟨ez (116,0),[nv "tab" (.val (.obj 0)),nv "parts" (.val pv),(.ofString "t",lt),(.ofString "out",out)],σ⟩
def Rb (h:t≠1):ae (n+1) (115,0) [.obj 0,.int 1,I t] (K G d)=sv (I t) (K G d):=aa [.b (neN (Ne.symm h)),.b (neN h),.z 1]
def FY {r:Nat}(hi:bA pv=some [I s,I t])(gY:∀x:Nat,aN .In (I x) (hG (.val pv) (K G d))=some (decide (s=x)||decide (t=x)))(hs:s∉[0,1,2,13])(ht:t∉[0,1,2,13])
  (M:ae (n+1) (115,0) [.obj 0,I s,I t] (K G d)=sv (I r) (K N d)):ae (n+2) (116,0) [.obj 0,pv] (K G d)=sv (I r) (K N d):=by
 simp only [List.mem_cons,List.not_mem_nil,or_false,not_or] at hs ht;have e:∀{x:Nat},s≠x->t≠x->aN .In (I x) (hG (.val pv) (K G d))=some false:=λH M=>by rw [gY,dF H,dF M];rfl
 have l1:∀Z,aZ (n+1) 11 (116,0) 1 (I s) (iX pv (.val (.int 13)) (.val (.int 1)) (K G d)) Z=Z .next (iX pv (.val (I s)) (.val (I s)) (K G d)):=aX [.r (Rb (n:=n) (G:=G) (d:=d) hs.2.1)];have l2:∀Z,aZ (n+1) 11 (116,0) 1 (I t) (iX pv (.val (I s)) (.val (I s)) (K G d)) Z=Z .next (iX pv (.val (I t)) (.val (I r)) (K N d)):=aX [.r M];exact aa [.z 1,.b (e hs.2.2.1 ht.2.2.1),.b (e hs.1 ht.1),.b (e hs.2.2.2 ht.2.2.2),.s hi,.f (cD l1 (cD l2 (dk (by kernel_rfl))))]
def xf (ai:L.Good)(W:L.Vals){a b:Nat}(h:TT G)(room:G.length<1000000)(hi:bA pv=some [I s,I t])(gY:∀x:Nat,aN .In (I x) (hG (.val pv) (K G d))=some (decide (s=x)||decide (t=x)))
  (T:Val L G s a) (vt:Val L G t b):∃r N,ae (n+8) (116,0) [.obj 0,pv] (K G d)=sv (I r) (K N d)/\Up G N 1/\Val L N r (a&&&b):=by
 have Ka:=gY 2;by_cases M:s=2\/t=2
 ·refine aD 2 G ?_ ((Up.refl h).mono (lZ _)) ?_
  ·rw [show(decide (s=2)||decide (t=2))=true from by rcases M with h|h<;>simp [h]] at Ka;exact aa [.z 1,.b Ka]
  ·have:a&&&b=0:=by
    rcases M with rfl|rfl
    ·rw [oT d ai h.t T (kV h.t),Nat.zero_and]
    ·rw [oT d ai h.t vt (kV h.t),Nat.and_zero]
   refine this.symm▸?_;exact kV h.t
 ·have no:∀{u m:Nat},u≠2->Val L G u m->u∉[0,1,2,13]:=λhu v=>by
   simp only [List.mem_cons,List.not_mem_nil,or_false,not_or];exact eQ (rG v.ty rfl (by decide) rfl h.t) (rG v.ty rfl (by decide) rfl h.t) hu (rG v.ty rfl (by decide) rfl h.t)
  exact aG (VI (n:=n) (d:=d) ai W h room T vt) λr N H h3=>ax r N (FY hi gY (no (λe=>M (.inl e)) T) (no (λe=>M (.inr e)) vt) H) h3
def FZ {m:Nat}{i:Nat×Nat}{k:Nat}{vars:bL}{σ:St}{f:Nat->Bool}(ho:oZ i k=true):∀{U:List Nat},(∀p∈U,∀Z,fz m 37 i k vars (I p) σ Z=Z (some (.bool (f p))) σ)->∀Z,eN m 37 i k vars (U.map I) σ Z=Z (U.map λp=>.bool (f p)) σ:=by
 intro z_
 induction z_ with
 |nil=>intro _;exact jc ho
 |cons p U ak=>intro h;exact fY (o:=some _) (h p mS) (ak λq hq=>h q (aT _ hq))
def E7 {f:Nat->Bool}(U:List Nat):blt .all [.list (U.map λp=>.bool (f p))]=some (.val (.bool (U.all f))):=by
 have:∀U:List Nat,a_ boolOf (U.map λp=>.bool (f p))=some (U.map f):=λU=>by
  induction U with
  |nil=>rfl
  |cons p U ih=>show(a_ boolOf (U.map _)).bind _=_;rw [ih];rfl
 show(allTrue _).bind _=_;delta allTrue;rw [this];show some (LV.val (.bool ((U.map f).all id)))=_;rw [List.all_map];rfl
def E8 {m:Nat}(ai:L.Good)(h:au G)(v:Val L G t m)(hn:(bq G t).Nodup):(bq G t).length<=10:=nT (te h.nd hn λp hp=>by exact aw (v.at' p hp) λj k _ b c=>(af k (dU b) c)) ai.len
def Ad {G:List Row}(h:TT G){t:Nat}(y:Ty G t):(bq G t).Nodup:=(zE h y).imp λh=>Nat.ne_of_lt h
def Js {xs:List V}(h:xs.length<=1048576):kW (.val (.tup xs))=some (I xs.length):=by show(guard (aY xs.length) _)=_;refine (dy h).symm▸?_;rfl
def E9 {m:Nat}(v:Val L G t m)(hm:m≠0)(d:Sh)(ai:L.Good)(h:au G):0<(bq G t).length:=by
 generalize e:bq G t=z_;induction z_ with
 |cons a l=>exact Nat.succ_pos _
 |nil=>
  refine bW (Ab ai h v) λjk H _ h3=>?_;replace H:=e▸H
  induction jk with
  |nil=>exact absurd h3.symm hm
  |cons x l=>exact mP H
def D0 {m:Nat}(h:TT G)(v:Val Lv G t m)(hm:m≠0):ae (n+3) (104,0) [.obj 0,I t] (K G d)=sv (.bool true) (K G d):=by
 have hl:=E8 Gv h.t v (Ad h v.ty);have hp:=E9 v hm d Gv h.t;have hc:∀Z,eN (n+2) 37 (104,0) 0 _ ((bq G t).map I) (K G d) Z=Z ((bq G t).map λp=>.bool true) (K G d):=FZ (by kernel_rfl) (vars:=[nv "tab" (.val (.obj 0)),nv "t" (.val (I t)),nv "parts" (.val (.tup ((bq G t).map I)))]) λp hp=>by
  refine aw (v.at' p hp) λj k _ b c=>?_;have va:=xV h.t c (Vv.va _ (dU b));have f:=oS (n:=n) (d:=d) h.t c va;have fb:=C2 va;have e:aN .NotIn (I (cY k)) (.val (.tup [I 0,I 7]))=some true:=by show(nW (I (cY k)) [I 0,I 7]).map not=_;rw [sJ,dF (iV fb.1 rfl:cY k≠0).symm,dF (vy fb.2 rfl:cY k≠7).symm];rfl
  exact ew [.r f,.b e]
 have ha:=E7 (f:=λ_=>true) (bq G t);rw [show(bq G t).all (λ_=>true)=true from List.all_eq_true.mpr λ_ _=>rfl] at ha;exact aa [.r (nI (n:=n+1) (d:=d) h.t v.ty.lt),.v (Js (xs:=(bq G t).map I) (by rw [lM];exact nT hl (nl rfl))),.b (by rw [vN];exact congrArg some (dT (by rw [lM];exact Int.ofNat_le.mpr ‹_›)):aN .Gt (I ((bq G t).map I).length) (.val (.int 0))=some true),.z 2,.g (gT (n:=((bq G t).map I).length) (by rw [lM];exact nT hl (nl rfl))),.c hc,.l ha]
end
section
variable{n s t:Nat} {G N:List Row} {d:Sh}
def NT {G:List Row}{t m:Nat}(h:TT G)(v:Val Lv G t m)(f:Nat->Bool)(hf:∀p k,G[p]?=some k->f p=jl k):(bq G t).all f=decide (m<256):=by
 have hu:∀j k,Lv.rows[j]?=some k->jl k=decide (j<8):=λj k hj=>by
  have:(List.range 10).all (λj=>(Lv.rows[j]?).elim false λk=>jl k==decide (j<8))=true:=by kernel_rfl
  have:=aE this j (rI (dR hj).1);replace this:=hj▸this;exact bE this
 refine Bool.eq_iff_iff.mpr ⟨λha=>dT (Nat.lt_of_not_le λhm=>?_),λhm=>List.all_eq_true.mpr λp hp=>?_⟩
 ·refine aq (Nat.exists_ge_and_testBit_of_ge_two_pow (n:=8) hm) λj hj hb=>?_;obtain ⟨k,hk⟩:=v.g5.row hb;have hd:Lv.c6 j=none:=by
   have:=(dR hk).1;have:j<10:=this;have:j=8\/j=9:=(by decide:∀j,j<10->8<=j->j=8\/j=9) j this hj;rcases this with rfl|rfl<;>rfl
  obtain ⟨p,hp,k',H,M⟩:=v.has j ⟨hb,λw hw=>by replace hw:=hd▸hw;exact aF hw⟩;have:=aE ha p hp;replace this:=(hu j k' H)▸(hf p k' M)▸this;exact absurd (cS this) (gW hj)
 ·refine aw (v.at' p hp) λj k a b c=>(hf p k c).symm▸(hu j k b).symm▸(dT (Nat.lt_of_not_le λhj=>?_));have a:=a.1;replace a:=(Nat.testBit_lt_two_pow (lL (cS hm) (Nat.pow_le_pow_right (n:=2) (nl rfl) hj)))▸a;exact aS a
def D8 {m:Nat}(h:TT G)(v:Val Lv G t m)(hm:m≠0):ae (n+4) (103,0) [.obj 0,I t] (K G d)=sv (.bool (decide (m<256))) (K G d):=by
 have hl:=E8 Gv h.t v (Ad h v.ty);have hp:=E9 v hm d Gv h.t
 let f:Nat->Bool:=λp=>jl (G.getD p (.param 0))
 have hf:∀p k,G[p]?=some k->f p=jl k:=λp k hk=>by show jl (G.getD p _)=_;refine List.getD_eq_getElem?_getD.symm▸hk.symm▸?_;rfl
 have hc:∀Z,eN (n+3) 37 (103,0) 0 _ ((bq G t).map I) (K G d) Z=Z ((bq G t).map λp=>.bool (f p)) (K G d):=FZ (by kernel_rfl) (vars:=[nv "tab" (.val (.obj 0)),nv "t" (.val (I t)),nv "parts" (.val (.tup ((bq G t).map I)))]) λp hp=>by exact aw (v.at' p hp) λj k _ b c=>(hf p k c).symm▸(ew [.r (Ay (n:=n+1) (d:=d) h.t c (xV h.t c (Vv.va _ (dU b))))])
 have ha:=E7 (f:=f) (bq G t);rw [NT h v f hf] at ha;have gt:aN .Gt (I ((bq G t).map I).length) (.val (.int 0))=some true:=by rw [vN];exact congrArg some (dT (by rw [lM];exact Int.ofNat_le.mpr ‹_›))
 exact aa [.r (nI (n:=n+2) (d:=d) h.t v.ty.lt),.v (Js (xs:=(bq G t).map I) (by rw [lM];exact nT hl (nl rfl))),.b gt,.z 2,.g (gT (n:=((bq G t).map I).length) (by rw [lM];exact nT hl (nl rfl))),.c hc,.l ha]
noncomputable def iz (p:Pr):Bool:=p.flags&&&1 !=0
noncomputable def wide (o:Bool)(m:Nat):Nat:=if o=true then m|||64 else m
def sV (p:Pr):k8 (I (p.flags&&&1))=some (iz p):=by
 show some ((((p.flags&&&1:Nat):Int)) !=0)=_;delta iz;by_cases e:p.flags&&&1=0
 ·refine e.symm▸?_;rfl
 ·rw [bne_iff_ne.mpr e,bne_iff_ne.mpr (λh:((p.flags&&&1:Nat):Int)=0=>e (Int.natCast_inj.mp h))]
noncomputable def k7 (A B:Nat):Bool:=decide ((A<256\/B<256)/\A&&&B=0)
def vh (m:Nat):m|||64≠0:=λe=>by have:=congrArg (Nat.testBit · 6) e;simp only [Nat.testBit_or,Nat.zero_testBit] at this;rw [show Nat.testBit 64 6=true from rfl,Bool.or_true] at this;exact nomatch this
def ME {A B:Nat}(h:TT G)(room:G.length<1000000)(T:Val Lv G s A)(vt:Val Lv G t B)(hu:A<256\/B<256):
  ∃r N,ae (n+8) (116,0) [.obj 0,.tup [I s,I t]] (K G d)=sv (I r) (K N d)/\Up G N 1/\aN .Eq (I r) (.val (.int 2))=some (k7 A B):=by
 refine aw (xf (n:=n) (d:=d) (pv:=.tup [I s,I t]) Gv Vv h room rfl (λx=>sJ x s t) T vt) λr N H M h3=>aD r N H M ((dx r 2).trans (congrArg some (decide_eq_decide.mpr ⟨λe=>⟨hu,?_⟩,λe=>?_⟩)))
 ·subst e;exact oT d Gv M.t.t h3 (kV M.t.t)
 ·rw [e.2] at h3;exact Hx M.t h3 (kV M.t.t)
def Pp {p q:Pr}{a b:Nat}(h:TT G)(room:G.length+3<=1000000)(T:Val Lv G p.t a)(vt:Val Lv G q.t b)(ha:a≠0)(hb:b≠0):
  ∃N,ae (n+9) (105,0) [.obj 0,pv p,pv q] (K G d)=sv (.bool (k7 (wide (iz p) a) (wide (iz q) b))) (K N d)/\Up G N 3:=by
 have op:=sV p;have oq:=sV q;have fa:=eA p.flags 1;have fb:=eA q.flags 1;have fin:∀{s t A B c:Nat}{aB:List Row}{o1 o2:Bool},wide o1 a=A->wide o2 b=B->Up G aB c->c<=2->Val Lv aB s A->Val Lv aB t B->A≠0->B≠0->
   (∀N r,(∀u v:Bool,ae (n+8) (104,0) [.obj 0,I s] (K aB d)=sv (.bool true) (K aB d)->ae (n+8) (104,0) [.obj 0,I t] (K aB d)=sv (.bool true) (K aB d)->
    ae (n+8) (103,0) [.obj 0,I s] (K aB d)=sv (.bool u) (K aB d)->ae (n+8) (103,0) [.obj 0,I t] (K aB d)=sv (.bool v) (K aB d)->
    ((u||v)=false/\r=false/\N=aB\/(u||v)=true/\∃x,ae (n+8) (116,0) [.obj 0,.tup [I s,I t]] (K aB d)=sv (I x) (K N d)/\aN .Eq (I x) (.val (.int 2))=some r)->
    ae (n+9) (105,0) [.obj 0,pv p,pv q] (K G d)=sv (.bool r) (K N d)))->
   ∃N,ae (n+9) (105,0) [.obj 0,pv p,pv q] (K G d)=sv (.bool (k7 (wide o1 a) (wide o2 b))) (K N d)/\Up G N 3:=λ{s t A B c aB o1 o2} e1 e2 u hc T vt ha hb go=>by
  refine e1.symm▸e2.symm▸?_;have r2:=u.len;have v1:=D0 (n:=n+5) (d:=d) u.t T ha;have v2:=D0 (n:=n+5) (d:=d) u.t vt hb;have u1:=D8 (n:=n+4) (d:=d) u.t T ha;have u2:=D8 (n:=n+4) (d:=d) u.t vt hb;by_cases hu:A<256\/B<256
  ·refine aw (ME (n:=n) (d:=d) u.t (Nat.lt_of_le_of_lt r2 (lL (Nat.add_lt_add_left (Nat.lt_succ_of_le hc) _) room)) T vt hu) λr N H M h3=>?_;exact af N (go N _ _ _ v1 v2 u1 u2 (.inr ⟨by simp only [Bool.or_eq_true,decide_eq_true_eq];exact hu,r,H,h3⟩)) ((u.trans M).mono (Nat.succ_le_succ hc))
  ·rw [show k7 A B=false from dF λh=>hu h.1];exact af aB (go aB _ _ _ v1 v2 u1 u2 (.inl (bx (by refine (dF λh=>hu (.inl h)).symm▸(dF λh=>hu (.inr h)).symm▸?_;rfl) rfl rfl))) (u.mono (lB hc))
 generalize o1:iz p=z_;induction z_ with
 |true=>
  rw [o1] at op;obtain ⟨s',aj,H,M,h3⟩:=oO (n:=n+4) (d:=d) h (lL (Nat.lt_add_of_pos_right (nl rfl)) room) T
  cases o2:iz q with
  |true=>
   rw [o2] at oq;refine aw (oO (n:=n+4) (d:=d) M.t (Nat.lt_of_le_of_lt M.len (lL (Nat.add_lt_add_left (nl rfl:1<3) _) room)) (vt.up M.pre)) λt' aB h4 h5 h6=>?_;refine fin (o2:=true) rfl rfl (M.trans h5) (nl rfl) (h3.up h5.pre) h6 (vh _) (vh _) λN r u v v1 v2 u1 u2 go=>?_;rcases go with⟨e,rfl,rfl⟩|⟨e,x,Y,hr⟩
   ·induction u with
    |true=>exact d7 e
    |false=>induction v with
     |true=>exact d7 e
     |false=>exact aa [.z 1,.l fa,.b op,.z 1,.r H,.z 1,.l fb,.b oq,.z 1,.r h4,.r v1,.r v2,.r u1,.r u2]
   ·cases u with
    |true=>exact aa [.z 1,.l fa,.b op,.z 1,.r H,.z 1,.l fb,.b oq,.z 1,.r h4,.r v1,.r v2,.r u1,.r Y,.b hr]
    |false=>cases v with
     |true=>exact aa [.z 1,.l fa,.b op,.z 1,.r H,.z 1,.l fb,.b oq,.z 1,.r h4,.r v1,.r v2,.r u1,.r u2,.r Y,.b hr]
     |false=>exact aS e
  |false=>
   rw [o2] at oq;refine fin (o2:=false) rfl rfl M (by decide) h3 (vt.up M.pre) (vh _) hb λN r u v v1 v2 u1 u2 go=>?_;rcases go with⟨e,rfl,rfl⟩|⟨e,x,Y,hr⟩
   ·cases u with
    |true=>cases e
    |false=>cases v with
     |true=>cases e
     |false=>exact aa [.z 1,.l fa,.b op,.z 1,.r H,.z 1,.l fb,.b oq,.z 1,.r v1,.r v2,.r u1,.r u2]
   ·cases u with
    |true=>exact aa [.z 1,.l fa,.b op,.z 1,.r H,.z 1,.l fb,.b oq,.z 1,.r v1,.r v2,.r u1,.r Y,.b hr]
    |false=>cases v with
     |true=>exact aa [.z 1,.l fa,.b op,.z 1,.r H,.z 1,.l fb,.b oq,.z 1,.r v1,.r v2,.r u1,.r u2,.r Y,.b hr]
     |false=>cases e
 |false=>
  rw [o1] at op
  cases o2:iz q with
  |true=>
   rw [o2] at oq;obtain ⟨t',aB,h4,h5,h6⟩:=oO (n:=n+4) (d:=d) h (lL (Nat.lt_add_of_pos_right (nl rfl)) room) vt;refine fin (o1:=false) (o2:=true) rfl rfl h5 (by decide) (T.up h5.pre) h6 ha (vh _) λN r u v v1 v2 u1 u2 go=>?_;rcases go with⟨e,rfl,rfl⟩|⟨e,x,Y,hr⟩
   ·cases u with
    |true=>cases e
    |false=>cases v with
     |true=>cases e
     |false=>exact aa [.z 1,.l fa,.b op,.z 2,.l fb,.b oq,.z 1,.r h4,.r v1,.r v2,.r u1,.r u2]
   ·cases u with
    |true=>exact aa [.z 1,.l fa,.b op,.z 2,.l fb,.b oq,.z 1,.r h4,.r v1,.r v2,.r u1,.r Y,.b hr]
    |false=>cases v with
     |true=>exact aa [.z 1,.l fa,.b op,.z 2,.l fb,.b oq,.z 1,.r h4,.r v1,.r v2,.r u1,.r u2,.r Y,.b hr]
     |false=>cases e
  |false=>
   replace oq:=o2▸oq;refine fin (o1:=false) (o2:=false) rfl rfl (Up.refl h) (nl rfl) T vt ha hb λN r u v v1 v2 u1 u2 go=>?_;rcases go with⟨e,rfl,rfl⟩|⟨e,x,Y,hr⟩
   ·cases u with
    |true=>exact d7 e
    |false=>induction v with
     |true=>exact d7 e
     |false=>exact aa [.z 1,.l fa,.b op,.z 2,.l fb,.b oq,.z 1,.r v1,.r v2,.r u1,.r u2]
   ·cases u with
    |true=>exact aa [.z 1,.l fa,.b op,.z 2,.l fb,.b oq,.z 1,.r v1,.r v2,.r u1,.r Y,.b hr]
    |false=>induction v with
     |true=>exact aa [.z 1,.l fa,.b op,.z 2,.l fb,.b oq,.z 1,.r v1,.r v2,.r u1,.r u2,.r Y,.b hr]
     |false=>exact aS e
end
abbrev cO (s:Str):Prop:=PyData.strOk s=true
noncomputable def sd {α:Type}(f:α->V)(S:List (Str×α)):List (V×V):=S.map λe=>(.str e.1,f e.2)
def uB {s:Str}(h:cO s):V.toD (.str s)=some (.str s):=if_pos h
section
variable{α:Type} {f:α->V}
def Rc {s:Str}:∀{S:List (Str×α)},(∀e∈S,cO e.1)->dm (.str s) (sd f S)=(S.lookup s).map f:=by
 intro z_
 induction z_ with
 |nil=>intro _;exact rfl
 |cons e S ak=>
  intro h;show((V.toD (.str e.1)).bind λk=>cond (D.beq k (.str s)) (some (f e.2)) (dm (.str s) (sd f S)))=_;refine (uB (h e mS)).symm▸?_;show cond (e.1==s) (some (f e.2)) (dm (.str s) (sd f S))=_;refine (ak λx Y=>h x (aT _ Y)).symm▸(show List.lookup s (e::S)=(match s==e.1 with|true=>some e.2|false=>S.lookup s) from rfl).symm▸(BEq.comm:(s==e.1)=(e.1==s)).symm▸?_
  cases e.1==s<;>rfl
def Ae {s:Str}{S:List (Str×α)}(h:∀e∈S,cO e.1):eo (sd f S) (.str s)=true:=by
 induction S with
 |nil=>rfl
 |cons e S=>show(match V.toD (.str e.1) with|some k=>alike k (.str s)|none=>false)=true;refine (uB (h e mS)).symm▸?_;rfl
def xB {s:Str}{S:List (Str×α)}(hs:cO s)(h:∀e∈S,cO e.1):dh (sd f S) (.str s)=some ((S.lookup s).map f):=by delta dh;rw [uB hs];show guard (eo (sd f S) (.str s)) _=_;rw [Ae h,Rc h];rfl
noncomputable def dQ (s:Str)(v:α):List (Str×α)->List (Str×α)
 |[]=>[(s,v)]
 |e::S=>cond (e.1==s) ((e.1,v)::S) (e::dQ s v S)
def Rf {s:Str}{v:α}:∀{S:List (Str×α)},(∀e∈S,cO e.1)->hF (.str s) (.str s) (f v) (sd f S)=sd f (dQ s v S):=by
 intro z_
 induction z_ with
 |nil=>intro _;exact rfl
 |cons e S ak=>
  intro h;show(match V.toD (.str e.1) with|some j=>cond (D.beq j (.str s)) ((V.str e.1,f v)::sd f S) ((V.str e.1,f e.2)::hF (.str s) (.str s) (f v) (sd f S))|none=>_)=_;rw [uB (h e mS)];show cond (e.1==s) ((V.str e.1,f v)::sd f S) ((V.str e.1,f e.2)::hF (.str s) (.str s) (f v) (sd f S))=sd f (cond (e.1==s) _ _);refine (ak λx Y=>h x (aT _ Y)).symm▸?_
  cases e.1==s<;>rfl
def xC {s:Str}{v:α}{S:List (Str×α)}(hs:cO s)(h:∀e∈S,cO e.1)(hl:S.length<=1000):gN (sd f S) (.str s) (f v)=some (sd f (dQ s v S)):=by delta gN;rw [uB hs];show guard (aY (sd f S).length&&eo (sd f S) (.str s)) (some (hF (.str s) (.str s) (f v) (sd f S)))=_;refine (Ae h).symm▸(dy (by show(sd f S).length<=1048576;delta sd;rw [lM];exact nT ‹_› (nl rfl))).symm▸(Rf h).symm▸?_;rfl
def wO {s x:Str}{v:α}:∀{S:List (Str×α)},(dQ s v S).lookup x=if x=s then some v else S.lookup x:=by
 intro z_
 induction z_ with
 |nil=>
  show(match x==s with|true=>some v|false=>none)=_;by_cases e:x=s
  ·rw [if_pos e,bI e]
  ·rw [if_neg e,bN e];rfl
 |cons e S ak=>
  have hl:∀{r:List (Str×α)}{y:α},List.lookup x ((e.1,y)::r)=(match x==e.1 with|true=>some y|false=>r.lookup x):=rfl;show(cond (e.1==s) ((e.1,v)::S) ((e.1,e.2)::dQ s v S):List _).lookup x=if x=s then some v else List.lookup x ((e.1,e.2)::S)
  cases h:e.1==s with
  |true=>
   have h:=bE h;show List.lookup x ((e.1,v)::S)=_;rw [hl,hl,h];by_cases q:x=s
   ·rw [if_pos q,bI q]
   ·rw [if_neg q,bN q]
  |false=>
   have h:=beq_eq_false_iff_ne.mp h;show List.lookup x ((e.1,e.2)::dQ s v S)=_;rw [hl,hl,ak];by_cases q:x=s
   ·rw [if_pos q,if_pos q,q,bN (Ne.symm h)]
   ·rw [if_neg q,if_neg q]
def F0 {s:Str}{v:α}:∀{S:List (Str×α)}{e:Str×α},e∈dQ s v S->e=(s,v)\/e∈S:=by
 intro z_
 induction z_ with
 |nil=>intro e h;exact .inl (sE h)
 |cons x S ak=>
  intro e h;unfold dQ at h
  cases q:x.1==s with
  |true=>
   rw [q] at h;rcases mE h with h|h
   ·exact .inl (by rw [h,bE q])
   ·exact .inr (aT _ h)
  |false=>
   rw [q] at h;rcases mE h with h|h
   ·exact .inr (h▸mS)
   ·exact (ak h).imp id (aT _)
def MF {s:Str}{v:α}:∀{S:List (Str×α)},(dQ s v S).map (·.1)=if s∈S.map (·.1) then S.map (·.1) else S.map (·.1)++[s]:=by
 intro z_
 induction z_ with
 |nil=>exact rfl
 |cons x S ak=>
  show((cond (x.1==s) ((x.1,v)::S) (x::dQ s v S):List _)).map (·.1)=if s∈x.1::S.map (·.1) then x.1::S.map (·.1) else x.1::S.map (·.1)++[s]
  cases q:x.1==s with
  |true=>rw [if_pos (List.mem_cons.mpr (.inl (bE q).symm))];rfl
  |false=>
   show x.1::(dQ s v S).map (·.1)=_;rw [ak];by_cases h:s∈S.map (·.1)
   ·rw [if_pos h,if_pos (aT _ h)]
   ·rw [if_neg h,if_neg λh'=>(mE h').elim (λe=>(beq_eq_false_iff_ne.mp q) e.symm) h];rfl
def EF {s:Str}{v:α}{S:List (Str×α)}(h:(S.map (·.1)).Nodup):((dQ s v S).map (·.1)).Nodup:=by
 rw [MF];by_cases e:s∈S.map (·.1)
 ·rw [if_pos e];exact h
 ·rw [if_neg e,List.nodup_append];exact bx h (List.pairwise_singleton ..) (λa ha b hb vM=>by obtain rfl:=sE hb;exact e (vM▸ha))
def jd {s:Str}{v:α}:∀{S:List (Str×α)},S.lookup s=some v->(s,v)∈S:=by
 intro z_
 induction z_ with
 |nil=>intro h;exact aF h
 |cons e S ak=>
  intro h;have h:(match s==e.1 with|true=>some e.2|false=>S.lookup s)=some v:=h
  cases q:s==e.1 with
  |true=>replace h:=q▸h;(injection h with q_;subst q_);refine (bE q).symm▸?_;exact mS
  |false=>replace h:=q▸h;exact aT _ (ak h)
def nJ {s:Str}{v:α}:∀{S:List (Str×α)},(S.map (·.1)).Nodup->(s,v)∈S->S.lookup s=some v
 |e::S,hn,h=>by
  show(match s==e.1 with|true=>some e.2|false=>S.lookup s)=some v;rcases mE h with rfl|h
  ·rw [bI rfl]
  ·refine (bN (λq=>(nE hn).1 (kE (af (s,v) h q)):s≠e.1)).symm▸?_;exact nJ (nE hn).2 h
end
def E_ {β:Type}{lt:β->β->Bool} x:∀l:List β,(fO lt x l).Perm (x::l)
 |[]=>.refl _
 |y::l=>by
  show(cond (lt x y) (x::y::l) (y::fO lt x l)).Perm _
  cases lt x y with
  |true=>exact .refl _
  |false=>exact ((E_ x l).cons y).trans (.swap x y l)
def wq {β:Type}{lt:β->β->Bool}:∀l:List β,(bZ lt l).Perm l:=by
 intro bz
 induction bz with
 |nil=>exact .refl _
 |cons aJ aU ak=>exact (E_ aJ _).trans ((ak).cons aJ)
def Pq {x:Str}:∀l:List Str,a_ c8 ((x::l).map .str)=none:=λl=>rfl
def strs_map:∀l:List Str,a_ strOf (l.map .str)=some l:=by
 intro bz
 induction bz with
 |nil=>exact rfl
 |cons aJ aU ak=>show(a_ strOf (aU.map .str)).bind _=_;refine (ak).symm▸?_;rfl
def Fb {α:Type}{f:α->V}{S:List (Str×α)}(h:S.length<64):blt .sorted [.dict (sd f S)]=some (.ml ((bZ fR (S.map (·.1))).map .str)):=by
 show guard (decide ((sd f S).length<64)) ((sorted ((sd f S).map (·.1))).bind _)=_;refine (dT (by show(sd f S).length<64;delta sd;rwa [lM])).symm▸?_;show(sorted ((sd f S).map (·.1))).bind _=_;refine (show(sd f S).map (·.1)=(S.map (·.1)).map .str from by delta sd;rw [List.map_map,List.map_map];rfl).symm▸?_;delta sorted
 induction S with
 |nil=>rfl
 |cons e S=>rw [show(e::S).map (·.1)=e.1::S.map (·.1) from rfl,Pq,strs_map];rfl
def xW {a b:Str}(ha:cO a)(hb:cO b):aN .Eq (.str a) (.val (.str b))=some (decide (a=b)):=by
 show kj (.str a) (.str b)=_;delta kj;rw [show V.di (.str a)=some (.str a) from if_pos ha,show V.di (.str b)=some (.str b) from if_pos hb];show some (a==b)=_;by_cases e:a=b
 ·rw [dT e,bI e]
 ·rw [dF e,bN e]
noncomputable def c7:List Str:=[.ofString "0",.ofString "p",.ofString "q"]
def eM {s:Str}(h:s∈c7):cO s:=by
 have:c7.all PyData.strOk=true:=by kernel_rfl
 exact aE this s h
noncomputable abbrev Es:=List (Str×Pr)
structure GE (S:Es):Prop where
 nd:(S.map (·.1)).Nodup
 nm:∀e∈S,e.1∈c7/\e.2.name=e.1
def Az:∀{g A:List Str},g.Nodup->(∀x∈g,x∈A)->g.length<=A.length:=by
 intro z_
 induction z_ with
 |nil=>intro A _ _;exact lZ _
 |cons p g ak=>
  intro A hn hp;(refine c9 (List.append_of_mem (hp p mS)) λA1 A2 bu=>?_;subst bu);have:=ak (A:=A1++A2) (nE hn).2 λq hq=>by
   refine (pE (hp q (aT _ hq))).elim (λH=>?_) (λH=>?_)
   ·exact List.mem_append_left _ H
   ·rcases mE H with rfl|H
    ·exact absurd hq (nE hn).1
    ·exact List.mem_append_right _ H
  simp only [List.length_append,List.length_cons] at*;exact Nat.lt_succ_of_le ‹_›
def GE.len {S:Es}(h:GE S):S.length<=3:=by
 have:=Az h.nd λx Y=>by(refine bT Y λe he cx=>?_;subst cx);exact (h.nm e he).1
 rw [lM] at this;exact this
def GE.ok {S:Es}(h:GE S):∀e∈S,cO e.1:=λe he=>eM (h.nm e he).1
def GE.nil:GE []:=⟨List.Pairwise.nil,λe h=>cj h⟩
def GE.put {S:Es}(h:GE S){p:Pr}(hp:p.name∈c7):GE (dQ p.name p S):=⟨EF h.nd,λe he=>(F0 he).elim (λq=>by refine q.symm▸?_;exact ⟨hp,rfl⟩) (h.nm e)⟩
def GE.dput {S:Es}(h:GE S){p:Pr}(hp:p.name∈c7):gN (sd pv S) (.str p.name) (pv p)=some (sd pv (dQ p.name p S)):=xC (eM hp) h.ok (by have:=h.len;exact nT ‹_› (nl rfl))
noncomputable def pl (U:List Pr):Es:=U.map λp=>(p.name,p)
noncomputable def dz (U:List Pr)(x:Str):Option Pr:=(pl U).lookup x
def GP (U:List Pr):Prop:=GE (pl U)
def GP.nm {U:List Pr}(h:GP U){p:Pr}(hp:p∈U):p.name∈c7:=(GE.nm h _ (mM hp)).1
noncomputable def hY (S:Es)(U:List Pr):Es:=U.foldl (λS p=>dQ p.name p S) S
def tG {p:Pr}{U:List Pr}{x:Str}:dz (p::U) x=if x=p.name then some p else dz U x:=by
 show(match x==p.name with|true=>some p|false=>(pl U).lookup x)=_;by_cases e:x=p.name
 ·rw [if_pos e,bI e]
 ·rw [if_neg e,bN e];rfl
def GP.tail {p:Pr}{U:List Pr}(h:GP (p::U)):GP U/\dz U p.name=none:=by
 refine ⟨⟨(nE h.nd).2,λe he=>GE.nm h e (aT _ he)⟩,?_⟩;generalize e:dz U p.name=z_;induction z_ with
 |none=>rfl
 |some q=>exact absurd (mM (jd e)) (nE h.nd).1
def Pt {x:Str}:∀{U:List Pr}{S:Es},GP U->(hY S U).lookup x=(dz U x).or (S.lookup x):=by
 intro z_
 induction z_ with
 |nil=>intro S _;exact rfl
 |cons p U ak=>
  intro S h;show(hY (dQ p.name p S) U).lookup x=_;rw [ak h.tail.1,wO,tG];by_cases e:x=p.name
  ·rw [if_pos e,if_pos e,e,h.tail.2];rfl
  ·rw [if_neg e,if_neg e]
def GE.adds:∀{U:List Pr}{S:Es},GE S->(∀p∈U,p.name∈c7)->GE (hY S U):=by
 intro z_
 induction z_ with
 |nil=>intro _ h _;exact h
 |cons p U ak=>intro S h hp;exact ak (h.put (hp p mS)) λq hq=>hp q (aT _ hq)
section
variable{m dd k:Nat} {i:Nat×Nat} {n:Nat} {G:List Row} {d:Sh} {σ:St}
def wQ {Xf:Es->LV->X}(ho:(gy i k).isSome=true):∀{U:List Pr}{S:Es}{lp:LV},(∀S lp p,GE S->p.name∈c7->∀Z,aZ m dd i k (pv p) (Xf S lp) Z=Z .next (Xf (dQ p.name p S) (.val (pv p))))->
  GE S->(∀p∈U,p.name∈c7)->∃bG,∀Z,cF m dd i k (U.map pv) (Xf S lp) Z=Z .next (Xf (hY S U) bG)
 |[],S,lp,_,_,_=>⟨lp,dk ho⟩
 |p::U,S,lp,ht,h,hp=>by have h0:=hp p mS;exact aM (wQ (S:=dQ p.name p S) (lp:=.val (pv p)) ho ht (h.put h0) λq hq=>hp q (aT _ hq)) λbG hl=>⟨bG,cD (ht S lp p h h0) hl⟩
noncomputable def n7 (S:Es):List Pr:=(bZ fR (S.map (·.1))).filterMap (S.lookup ·)
def F1 {vars:bL}(ho:oZ i k=true){S:Es}:∀{xs:List Str},(∀x p,S.lookup x=some p->∀Z,fz m dd i k vars (.str x) σ Z=Z (some (pv p)) σ)->
  (∀x∈xs,∃p,S.lookup x=some p)->∀Z,eN m dd i k vars (xs.map .str) σ Z=Z ((xs.filterMap (S.lookup ·)).map pv) σ:=by
 intro z_
 induction z_ with
 |nil=>intro _ _;exact jc ho
 |cons x xs ak=>intro ht h;refine aM (h x mS) λp hp=>?_;have:=fY (ht x p hp) (ak ht λy hy=>h y (aT _ hy));exact (List.filterMap_cons_some hp:(x::xs).filterMap (S.lookup ·)=p::xs.filterMap (S.lookup ·)).symm▸this
def Af {S:Es}(h:GE S):∀x∈bZ fR (S.map (·.1)),∃p,S.lookup x=some p:=λx Y=>by(refine bT ((wq _).mem_iff.mp Y) λe he cG=>?_;subst cG);exact ⟨e.2,nJ h.nd he⟩
def Fc {S:Es}(h:GE S):(bZ fR (S.map (·.1))).length<=3/\(n7 S).length<=3:=by have:=(wq (lt:=fR) (S.map (·.1))).length_eq;rw [lM] at this;have:=nT (Nat.le_of_eq this) h.len;exact ⟨this,nT (List.length_filterMap_le _ _) this⟩
def sP {S:Es}(h:GE S):GP (n7 S)/\∀x,dz (n7 S) x=S.lookup x:=by
 have nm:∀{x:Str}{p:Pr},S.lookup x=some p->p.name=x/\x∈c7:=λhp=>by have:=h.nm _ (jd hp);exact ⟨this.2,this.1⟩
 have key:∀xs:List Str,xs.Nodup->(∀x∈xs,∃p,S.lookup x=some p)->GP (xs.filterMap (S.lookup ·))/\(pl (xs.filterMap (S.lookup ·))).map (·.1)=xs/\∀x,dz (xs.filterMap (S.lookup ·)) x=if x∈xs then S.lookup x else none:=λxs=>by
  induction xs with
  |nil=>exact λ_ _=>bx GE.nil rfl (λx=>rfl)
  |cons y xs ih=>
   intro hn Y;refine bc λiF=>aM (Y y mS) λp hp=>ef (ih (nE hn).2 λx h=>Y x (aT _ h)) λa b c=>iF ?_;have e:(y::xs).filterMap (S.lookup ·)=p::xs.filterMap (S.lookup ·):=List.filterMap_cons_some hp;have pn:=nm hp;refine e.symm▸?_;have nms:(pl (p::xs.filterMap (S.lookup ·))).map (·.1)=y::xs:=by show p.name::(pl (xs.filterMap (S.lookup ·))).map (·.1)=_;exact b.symm▸pn.1.symm▸rfl
   refine bx ⟨by refine nms.symm▸?_;exact hn,λe he=>?_⟩ nms (λx=>?_)
   ·rcases mE he with rfl|he
    ·exact ⟨by show p.name∈_;rw [pn.1];exact pn.2,rfl⟩
    ·exact GE.nm a e he
   ·rw [tG,c,pn.1];by_cases q:x=y
    ·rw [if_pos q,if_pos (q▸mS),q,hp]
    ·rw [if_neg q];by_cases q2:x∈xs
     ·rw [if_pos q2,if_pos (aT _ q2)]
     ·rw [if_neg q2,if_neg λh=>(mE h).elim q q2]
 refine ef (key (bZ fR (S.map (·.1))) ((wq _).nodup_iff.mpr h.nd) (Af h)) λa _ c=>?_;refine ⟨a,λx=>(c x).trans ?_⟩;by_cases q:x∈bZ fR (S.map (·.1))
 ·rw [if_pos q]
 ·rw [if_neg q];generalize e:S.lookup x=z_;induction z_ with
  |none=>rfl
  |some p=>exact absurd ((wq _).mem_iff.mpr (mM (jd e))) q
def Bb {S:Es}{x:Str}{p:Pr}(h:∀e∈S,cO e.1)(Y:cO x)(hp:S.lookup x=some p):cz (.val (.dict (sd pv S))) (.str x)=some (pv p):=by show(dh (sd pv S) (.str x)).bind id=_;refine (xB Y h).symm▸hp.symm▸?_;rfl
noncomputable def vP:Option Pr->V
 |none=>.none
 |some p=>pv p
noncomputable def fX (row:V)(x:Str)(lp:LV)(σ:St):X:=⟨ez (142,0),[nv "row" (.val row),nv "name" (.val (.str x)),(.ofString "prop",lp)],σ⟩
def NU {row:V}{x:Str}(Y:cO x):∀{U:List Pr}{lp:LV},(∀p∈U,cO p.name)->∃fl bG,(∀Z,cF n 11 (142,0) 0 (U.map pv) (fX row x lp σ) Z=Z fl (fX row x bG σ))/\(match dz U x with|none=>fl=.next|some p=>fl=.ret (.val (pv p))):=by
 intro z_
 induction z_ with
 |nil=>intro lp _;exact ax .next lp (dk (by kernel_rfl)) rfl
 |cons p U ak=>
  intro lp h;have e:=xW (h p mS) Y;refine tG.symm▸?_;by_cases q:x=p.name
  ·rw [dT q.symm] at e;rw [if_pos q];have ht:∀Z,aZ n 11 (142,0) 0 (pv p) (fX row x lp σ) Z=Z (.ret (.val (pv p))) (fX row x (.val (pv p)) σ):=aX [.z 1,.b e];exact ax _ _ (j0 (by kernel_rfl) ht) rfl
  ·rw [dF (Ne.symm q)] at e;rw [if_neg q];have ht:∀Z,aZ n 11 (142,0) 0 (pv p) (fX row x lp σ) Z=Z .next (fX row x (.val (pv p)) σ):=aX [.z 1,.b e];obtain ⟨fl,bG,a,b⟩:=ak (lp:=.val (pv p)) λr hr=>h r (aT _ hr);exact ax fl bG (cD ht a) b
def Rg {U:List Pr}{s c:Option (Nat×Nat)}{x:Str}(h:GP U)(Y:cO x):ae (n+1) (142,0) [rv (.obj U s c),.str x] σ=sv (vP (dz U x)) σ:=by
 refine aG (NU (n:=n) (row:=rv (.obj U s c)) (σ:=σ) Y (lp:=.unset) λp hp=>eM (h.nm hp)) λfl bG a b=>?_;generalize e:dz U x=z_;induction z_ with
 |none=>replace b:=e▸b;subst b;exact aa [.z 2,.f a]
 |some p=>replace b:=e▸b;subst b;exact aa [.z 2,.f a]
noncomputable def dX (row:V)(S:Es)(lp:LV)(σ:St):X:=⟨ez (120,0),[nv "row" (.val row),nv "out" (.md (sd pv S)),(.ofString "prop",lp)],σ⟩
def Pu {U:List Pr}{s c:Option (Nat×Nat)}(h:GP U):ae (n+1) (120,0) [rv (.obj U s c)] σ=some (.md (sd pv (hY [] U)),σ):=by exact aM (wQ (m:=n) (dd:=11) (i:=(120,0)) (k:=0) (Xf:=λS lp=>dX (rv (.obj U s c)) S lp σ) (by kernel_rfl) (S:=[]) (lp:=.unset) (λS lp p g hp=>aX [.z 1,.e (g.dput hp)]) GE.nil λp hp=>h.nm hp) λbG hl=>aa [.z 2,.f hl]
noncomputable def qX (props:V)(S:Es)(lp:LV)(σ:St):X:=⟨ez (74,0),[nv "props" (.val props),nv "found" (.md (sd pv S)),(.ofString "prop",lp)],σ⟩
def NV {U:List Pr}(h:∀p∈U,p.name∈c7):ae (n+1) (74,0) [.list (U.map pv)] σ=sv (.tup ((n7 (hY [] U)).map pv)) σ:=by refine aM (wQ (m:=n) (dd:=11) (i:=(74,0)) (k:=0) (Xf:=λS lp=>qX (.list (U.map pv)) S lp σ) (by kernel_rfl) (S:=[]) (lp:=.unset) (λS lp p g hp=>aX [.z 1,.e (g.dput hp)]) GE.nil h) λbG hl=>?_;have g:=GE.nil.adds h;have gl:=g.len;have sl:=Fc g;have hc:=F1 (m:=n) (dd:=38) (i:=(74,0)) (k:=0) (σ:=σ) (vars:=[nv "props" (.val (.list (U.map pv))),nv "found" (.val (.dict (sd pv (hY [] U)))),(.ofString "prop",bG)]) (by kernel_rfl) (xs:=bZ fR ((hY [] U).map (·.1))) (λx p hp=>ew [.v (Bb g.ok (g.ok _ (jd hp)) hp:cz (.val (.dict (sd pv (hY [] U)))) (.str x)=some (pv p))]) (Af g);exact aa [.z 1,.f hl,.l (Fb (f:=pv) (S:=hY [] U) ((Nat.lt_of_le_of_lt ‹_› (nl rfl)))),.z 1,.g (gT (n:=((bZ fR ((hY [] U).map (·.1))).map V.str).length) (by rw [lM];exact nT sl.1 (nl rfl))),.c hc,.l (yn (xs:=(n7 (hY [] U)).map pv) (by rw [lM];exact nT sl.2 (nl rfl)))]
end
structure Fi where
 m:Nat
 opt:Bool
 cP:Bool
noncomputable abbrev Hf:=List (Str×Fi)
noncomputable def rq (p:Pr)(a:Fi):Bool:=(p.flags,p.src,a.opt,a.cP)∈[(0,0,false,false),(1,0,true,false),(3,0,true,false),(8,1,false,true),(16,1,false,true)]
structure b9 (G:List Row)(p:Pr)(a:Fi):Prop where
 v:Val Lv G p.t a.m
 f:rq p a=true
def b9.up {G N:List Row}{p:Pr}{a:Fi}(u:G<+:N)(h:b9 G p a):b9 N p a:=⟨h.v.up u,h.f⟩
def b9.opt {G:List Row}{p:Pr}{a:Fi}(h:b9 G p a):iz p=a.opt:=by have:=h.f;unfold rq at this;delta iz;simp only [List.mem_cons,List.not_mem_nil,or_false,Prod.mk.injEq,decide_eq_true_eq] at this;refine this.elim (λh=>?_) (λbu=>bu.elim (λh=>?_) (λcx=>cx.elim (λh=>?_) (λcG=>cG.elim (λh=>?_) (λh=>?_))))<;>refine h.1.symm▸h.2.2.1.symm▸?_<;>rfl
noncomputable def both {α β:Type}(R:α->β->Prop):Option α->Option β->Prop
 |none,none=>True
 |some a,some b=>R a b
 |_,_=>False
def both.up {α β:Type}{R aK:α->β->Prop}(h:∀a b,R a b->aK a b){a:Option α}{b:Option β}(x:both R a b):both aK a b:=by cases a<;>cases b<;>first|exact h _ _ x|exact x
structure Ob where
 f:Hf
 s:Option Nat
 c:Option Nat
structure cK (G:List Row)(t:Nat)(O:Ob)(U:List Pr)(s c:Option (Nat×Nat)):Prop where
 row:G[t]?=some (.obj U s c)
 gp:GP U
 fs:∀x,both (b9 G) (dz U x) (O.f.lookup x)
 hs:both (λc m=>Val Lv G c.1 m) s O.s
 hc:both (λc m=>Val Lv G c.1 m) c O.c
def cK.up {G N:List Row}{t:Nat}{O:Ob}{U:List Pr}{s c:Option (Nat×Nat)}(u:G<+:N)(h:cK G t O U s c):cK N t O U s c:=⟨bg u h.row,h.gp,λx=>(h.fs x).up λ_ _=>b9.up u,h.hs.up λ_ _=>Val.up u,h.hc.up λ_ _=>Val.up u⟩
def Ob.plain (O:Ob):Prop:=∀x a,O.f.lookup x=some a->a.m≠0/\a.cP=false
noncomputable def mv:Option Fi->Option Fi->Bool
 |some a,some b=>k7 (wide a.opt a.m) (wide b.opt b.m)
 |_,_=>false
def jG (A B:Hf):Prop:=∃x,mv (A.lookup x) (B.lookup x)=true
def Up.room {a b:List Row}{c m L:Nat}(u:Up a b c)(h:a.length+(c+m)<=L):b.length+m<=L:=nT (Nat.add_le_add_right u.len m) (by rw [Nat.add_assoc];exact h)
def Up.cJ {a b:List Row}{c m k L:Nat}(u:Up a b c)(h:a.length+k<=L)(e:c+m<=k):b.length+m<=L:=u.room (nT (nA e _) h)
section
variable{n s t:Nat} {G:List Row} {d:Sh}
def Cb {α:Type}{f:α->V}{S:List (Str×α)}(h:∀e∈S,cO e.1){x:Str}(Y:cO x):aN .In (.str x) (.md (sd f S))=some (S.lookup x).isSome:=by
 show(dh (sd f S) (.str x)).map Option.isSome=_;refine (xB Y h).symm▸?_
 cases S.lookup x<;>rfl
def Bc {S:Es}{x:Str}{p:Pr}(h:∀e∈S,cO e.1)(Y:cO x)(hp:S.lookup x=some p):cz (.md (sd pv S)) (.str x)=some (pv p):=Bb h Y hp
def GF {U:List Pr}{a c:Option (Nat×Nat)}(h:au G)(hk:G[t]?=some (.obj U a c)):ae (n+1) (106,0) [.obj 0,I t] (K G d)=sv (.tup (U.map pv)) (K G d):=aa [.v (aQ h hk),.z 5]
noncomputable def cX (s t:Nat)(S:Es)(lp:LV)(σ:St):X:=⟨ez (107,0),[nv "tab" (.val (.obj 0)),nv "s" (.val (I s)),nv "t" (.val (I t)),nv "found" (.md (sd pv S)),(.ofString "prop",lp)],σ⟩
def MG {A B:Hf}{S:Es}(g:GE S):∀{qs:List Pr}{G:List Row}{lp:LV},TT G->G.length+3*qs.length<=1000000->(∀q∈qs,q.name∈c7/\∃b,B.lookup q.name=some b/\b9 G q b/\b.m≠0)->
  (∀x,both (λp a=>b9 G p a/\a.m≠0) (S.lookup x) (A.lookup x))->
  ∃fl bG N,(∀Z,cF (n+9) 11 (107,0) 1 (qs.map pv) (cX s t S lp (K G d)) Z=Z fl (cX s t S bG (K N d)))/\Up G N (3*qs.length)/\
   ((∃q∈qs,mv (A.lookup q.name) (B.lookup q.name)=true)/\fl=.ret (.val (.bool true))\/(¬∃q∈qs,mv (A.lookup q.name) (B.lookup q.name)=true)/\fl=.next):=by
 intro z_
 induction z_ with
 |nil=>intro G lp h _ _ _;exact gf .next lp G (dk (by kernel_rfl)) (Up.refl h) (.inr ⟨λfj=>aq fj λq hq _=>(cj hq),rfl⟩)
 |cons q qs ak=>
  intro G lp h room hq ha;obtain ⟨hn,b,hb,fb,nb⟩:=hq q mS;have hi:=Cb (f:=pv) g.ok (eM hn);have Y:=ha q.name;have step:∃aj r,Up G aj 3/\mv (A.lookup q.name) (B.lookup q.name)=r/\∀Z,aZ (n+9) 11 (107,0) 1 (pv q) (cX s t S lp (K G d)) Z=Z (cond r (.ret (.val (.bool true))) .next) (cX s t S (.val (pv q)) (K aj d)):=by
   generalize e:S.lookup q.name=z_;induction z_ with
   |none=>
    rw [e] at hi Y;generalize e2:A.lookup q.name=z_;induction z_ with
    |some a=>rw [e2] at Y;exact Y.elim
    |none=>exact aD G false ((Up.refl h).mono (lZ _)) rfl (aX [.z 1,.b hi])
   |some p=>
    rw [e] at hi Y;generalize e2:A.lookup q.name=z_;induction z_ with
    |none=>rw [e2] at Y;exact Y.elim
    |some a=>
     replace Y:=e2▸Y;refine aq (Pp (n:=n) (d:=d) h (nT (nA (Nat.le_mul_of_pos_right 3 (Nat.succ_pos _)) _) room) Y.1.v fb.v Y.2 nb) λaj H M=>?_;rw [Y.1.opt,fb.opt] at H;refine hb.symm▸(aD aj _ M rfl ?_);show∀Z,aZ (n+9) 11 (107,0) 1 (pv q) (cX s t S lp (K G d)) Z=Z (cond (k7 (wide a.opt a.m) (wide b.opt b.m)) (.ret (.val (.bool true))) .next) (cX s t S (.val (pv q)) (K aj d));generalize e3:k7 (wide a.opt a.m) (wide b.opt b.m)=z_;induction z_ with
     |true=>rw [e3] at H;exact aX [.z 1,.b hi,.z 1,.v (Bc g.ok (eM hn) e),.r H]
     |false=>rw [e3] at H;exact aX [.z 1,.b hi,.z 1,.v (Bc g.ok (eM hn) e),.r H]
  refine aw step λaj r u er ht=>?_
  induction r with
  |true=>exact gf _ _ aj (j0 (by kernel_rfl) ht) (u.mono (Nat.le_mul_of_pos_right 3 (Nat.succ_pos _))) (.inl ⟨(af q mS er),rfl⟩)
  |false=>
   refine fA (ak (lp:=.val (pv q)) u.t (u.cJ room (by rw [Nat.add_comm];exact nR (3*(qs.length+1)))) (λx Y=>by obtain ⟨y1,b,y2,y3,y4⟩:=hq x (aT _ Y);exact ⟨y1,b,y2,y3.up u.pre,y4⟩) λx=>(ha x).up λ_ _ h=>⟨h.1.up u.pre,h.2⟩) λfl bG N a1 a2 a3=>?_
   refine gf fl bG N (cD ht a1) ((u.trans a2).mono (by rw [Nat.add_comm];exact nR (3*(qs.length+1)))) (a3.imp (λh=>⟨h.1.elim λx h=>⟨x,aT _ h.1,h.2⟩,h.2⟩) λh=>⟨λVO=>aq VO λx Y hc=>?_,h.2⟩);rcases mE Y with rfl|Y
   ·replace hc:=er▸hc;exact aS hc
   ·exact h.1 (af x Y hc)
end
section
variable{n s t:Nat} {G:List Row} {d:Sh} {A B:Ob} {U qs:List Pr} {a1 a2 b1 b2:Option (Nat×Nat)}
def cK.both (h:cK G s A U a1 a2){p:Pr}(hp:p∈U):p.name∈c7/\∃b,A.f.lookup p.name=some b/\b9 G p b:=by
 refine ⟨h.gp.nm hp,?_⟩;have hl:dz U p.name=some p:=nJ h.gp.nd (mM hp);have:=h.fs p.name;replace this:=hl▸this;generalize e:A.f.lookup p.name=z_;induction z_ with
 |none=>rw [e] at this;exact this.elim
 |some b=>rw [e] at this;exact af b rfl this
def Ag {S:Es}{U:List Pr}(h:GP U)(x:Str):(hY [] U).lookup x=dz U x:=by refine (Pt h).symm▸?_;cases dz U x<;>rfl
def GP.len {U:List Pr}(h:GP U):U.length<=3:=by
 have:=GE.len h;unfold pl at this
 rwa [lM] at this
def NW (h:TT G)(room:G.length+9<=1000000)(oa:cK G s A U a1 a2)(ob:cK G t B qs b1 b2)(pa:A.plain)(pb:B.plain):
  ∃N r,ae (n+10) (107,0) [.obj 0,I s,I t] (K G d)=sv (.bool r) (K N d)/\Up G N 9/\(r=true↔jG A.f B.f):=by
 have hf:=GF (n:=n+8) (d:=d) h.t oa.row;have hg:=GF (n:=n+8) (d:=d) h.t ob.row;refine bc λXs=>?_;refine aM (wQ (m:=n+9) (dd:=11) (i:=(107,0)) (k:=0) (Xf:=λS lp=>cX s t S lp (K G d)) (by kernel_rfl) (S:=[]) (lp:=.unset) (λS lp p g hp=>by have e:=g.dput hp;exact aX [.z 1,.e e]) GE.nil λp hp=>oa.gp.nm hp) λlp hl=>?_
 obtain ⟨fl,bG,N,c1,c2,c3⟩:=MG (n:=n) (s:=s) (t:=t) (d:=d) (GE.nil.adds λp hp=>oa.gp.nm hp) (B:=B.f) (lp:=lp) h (nT (nA (Nat.mul_le_mul_left 3 ob.gp.len) _) room) (λq hq=>by
  obtain ⟨H,b,M,h3⟩:=ob.both hq;exact ⟨H,b,M,h3,(pb _ _ M).1⟩) λx=>by
   rw [Ag (S:=[]) oa.gp];have:=oa.fs x;generalize e:A.f.lookup x=z_;induction z_ with
   |none=>replace this:=e▸this;generalize e2:dz U x=z_;induction z_ with
    |none=>exact trivial
    |some p=>rw [e2] at this;exact this.elim
   |some b=>rw [e] at this;generalize e2:dz U x=z_;induction z_ with
    |none=>replace this:=e2▸this;exact this.elim
    |some p=>rw [e2] at this;exact ⟨this,(pa _ _ e).1⟩
 refine Xs ?_;have u:=c2.mono (Nat.mul_le_mul_left 3 ob.gp.len);rcases c3 with⟨⟨q,hq,hc⟩,rfl⟩|⟨hc,rfl⟩
 ·exact ⟨N,true,aa [.r hf,.z 1,.f hl,.r hg,.z 1,.f c1],u,λ_=>⟨q.name,hc⟩,λ_=>rfl⟩
 ·refine ⟨N,false,aa [.r hf,.z 1,.f hl,.r hg,.z 1,.f c1],u,λh=>(aS h),λBX=>aM BX λx Y=>absurd ?_ hc⟩;have hb:=ob.fs x;generalize e:dz qs x=z_;induction z_ with
  |none=>rw [e] at hb;generalize e2:B.f.lookup x=z_;induction z_ with
   |none=>replace Y:=e2▸Y;generalize ea:A.f.lookup x=z_;induction z_<;>rw [ea] at Y<;>exact aS Y
   |some b=>rw [e2] at hb;exact hb.elim
  |some q=>
   refine bc λug=>bT (jd e) λq' vT e'=>?_
   cases e'
   exact ug (af q vT Y)
def AA (h:au G)(hk:G[s]?=some (.obj U a1 a2)):ae (n+2) (91,0) [.obj 0,I s] (K G d)=sv (I s) (K G d):=by have:ae (n+1) (90,0) [.obj 0,I s] (K G d)=sv (.bool false) (K G d):=aa [.v (aQ h hk),.z 6];exact aa [.r this]
def GG (h:au G)(hk:G[s]?=some (.obj U a1 a2)):ae (n+3) (113,0) [.obj 0,I s] (K G d)=sv (.tup [I s]) (K G d):=aa [.v (aQ h hk),.z 4,.r (AA (n:=n) (d:=d) h hk)]
def tH (h:au G)(hk:G[s]?=some (.obj U a1 a2)):ae (n+1) (95,0) [.obj 0,I s] (K G d)=sv (I 7) (K G d):=aa [.v (aQ h hk),.z 4]
open Classical in
noncomputable def pD (s t:Nat)(A B:Ob):Nat:=if s=11 then 2 else if t=11 then 1 else if jG A.f B.f then 0 else 3
def Pw (h:TT G)(room:G.length+9<=1000000)(oa:cK G s A U a1 a2)(ob:cK G t B qs b1 b2)(pa:A.plain)(pb:B.plain)(ne:s≠t):
  ∃N,ae (n+12) (111,0) [.obj 0,I s,I t] (K G d)=sv (I (pD s t A B)) (K N d)/\Up G N 9:=by
 refine aq (tD (n:=n+10) (d:=d) h.t ob.row) λi H M=>?_;refine aq (tD (n:=n+10) (d:=d) h.t oa.row) λj h3 h4=>?_;have hi:i=-1:=M.elim (·.1) λ⟨r,_,_,h,_⟩=>aF h;have hj:j=-1:=h4.elim (·.1) λ⟨r,_,_,h,_⟩=>aF h;subst hi hj;have fin:∀{N:List Row}{c:Nat},ae (n+11) (110,0) [.obj 0,I s,I t,I 7,I 7] (K G d)=sv (I c) (K N d)->ae (n+12) (111,0) [.obj 0,I s,I t] (K G d)=sv (I c) (K N d):=λhc=>aa [.b (neN ne),.r H,.b (oJ s),.r h3,.b (oJ t),.r (tH (n:=n+10) (d:=d) h.t oa.row),.r (tH (n:=n+10) (d:=d) h.t ob.row),.z 2,.r (wo:ae (n+11) (96,0) [I 7] (K G d)=sv (.bool false) (K G d)),.r (wo:ae (n+11) (96,0) [I 7] (K G d)=sv (.bool false) (K G d)),.z 1,.r hc];delta pD;by_cases hs:s=11
 ·rw [if_pos hs];subst hs;exact af G (fin (aa [.z 1])) ((Up.refl h).mono (lZ _))
 ·rw [if_neg hs];by_cases ht:t=11
  ·rw [if_pos ht];subst ht;exact af G (fin (aa [.b (neN hs),.z 1])) ((Up.refl h).mono (lZ _))
  ·rw [if_neg ht];refine aw (NW (n:=n) (d:=d) h room oa ob pa pb) λN r c1 c2 c3=>af N (fin ?_) c2
   induction r with
   |true=>rw [if_pos (c3.mp rfl)];exact aa [.b (neN hs),.b (neN ht),.z 1,.r c1]
   |false=>rw [if_neg λh=>Bool.noConfusion (c3.mpr h)];exact aa [.b (neN hs),.b (neN ht),.z 1,.r c1]
end
section
variable{n s t:Nat} {G:List Row} {d:Sh} {A B:Ob} {U qs:List Pr} {a1 a2 b1 b2:Option (Nat×Nat)}
def ti (h:au G)(hk:G[s]?=some (.obj U a1 a2)):Atom G s:=⟨(af _ hk rfl),fI λe=>by
 have hl:=pC e;have e2:=bg h.pre (cM hl);replace e2:=hk▸e2;have:(List.range 16).all (λi=>!(mu i&&(dc[i]?).any λk=>decide (rk k=8)))=true:=by kernel_rfl
 have:=aE this s (rI hl);rw [e,cM hl,<-oj e2] at this;exact aS this⟩
def nS (G:List Row)(s t r:Nat)(A B:Ob):Prop:=jG A.f B.f/\s≠t/\s≠11/\t≠11/\r=2\/s=t/\r=s\/s=11/\r=t\/t=11/\r=s\/¬jG A.f B.f/\s≠11/\t≠11/\G[r]?=some (.inter [s,t])
def GI {x y:Nat}{vars:bL}(hr:ae (n+1) (91,0) [.obj 0,I s] (K G d)=sv (I s) (K G d))(hv:vars=(mX x y (.val (.list [I x,I y])) (.val (I y)) (K G d)).vars):∀Z,fz (n+1) 36 (114,0) 1 vars (I s) (K G d) Z=Z (some (I s)) (K G d):=by subst hv;exact ew [.r hr]
def Px (h:TT G)(room:G.length+10<=1000000)(oa:cK G s A U a1 a2)(ob:cK G t B qs b1 b2)(pa:A.plain)(pb:B.plain)(ne:s≠t):
  ∃r N,ae (n+14) (114,0) [.obj 0,I s,I t] (K G d)=sv (I r) (K N d)/\Up G N 10/\nS N s t r A B:=by
 refine aq (Pw (n:=n) (d:=d) h (Nat.le_of_succ_le room) oa ob pa pb ne) λaj hc u=>?_;have hp:=GG (n:=n+10) (d:=d) h.t oa.row;have hq:=GG (n:=n+10) (d:=d) h.t ob.row;by_cases c3:pD s t A B<3
 ·refine aD _ aj (zd hp hq (xA hc (Nat.le_of_lt c3)) c3) (u.mono (nl rfl)) ?_;delta pD C3;by_cases hs:s=11
  ·rw [if_pos hs];exact .inr (.inr (.inl ⟨hs,rfl⟩))
  ·rw [if_neg hs];by_cases ht:t=11
   ·rw [if_pos ht];exact .inr (.inr (.inr (.inl ⟨ht,rfl⟩)))
   ·rw [if_neg ht];by_cases lY:jG A.f B.f
    ·rw [if_pos lY];exact .inl (x6 lY ne hs ht rfl)
    ·unfold pD at c3;rw [if_neg hs,if_neg ht,if_neg lY] at c3;exact absurd c3 (by decide)
 ·have hn:¬jG A.f B.f/\s≠11/\t≠11/\pD s t A B=3:=by
   unfold pD at c3⊢;by_cases hs:s=11
   ·rw [if_pos hs] at c3;exact absurd (nl rfl) c3
   ·rw [if_neg hs] at c3⊢;by_cases ht:t=11
    ·rw [if_pos ht] at c3;exact absurd (nl rfl) c3
    ·rw [if_neg ht] at c3⊢;by_cases lY:jG A.f B.f
     ·rw [if_pos lY] at c3;exact absurd (by decide) c3
     ·rw [if_neg lY];exact eQ lY hs ht rfl
  rw [hn.2.2.2] at hc;exact aw (fN (n:=n+12) (d:=d) (k:=.inter [s,t]) u.t rfl (u.room (m:=1) room) (λU e=>nomatch e)) λr N H M h3=>aD r N (aa [.r hp,.z 2,.c (IA (n:=n+13) (v:=I s) (σ:=K G d) (vars:=(mX s t .unset .unset (K G d)).vars)),.r hq,.z 1,.f (Ca (by decide) (xA hc (nl rfl))),.z 4,.c (fY (GI (n:=n+12) (y:=t) (AA (d:=d) u.t.t (bg u.pre oa.row)) rfl) (fY (GI (x:=s) (AA (d:=d) u.t.t (bg u.pre ob.row)) rfl) (jc (by kernel_rfl)))),.z 1,.r H]) ((u.trans M).mono (nl rfl)) (.inr (.inr (.inr (.inr (eQ hn.1 hn.2.1 hn.2.2.1 h3)))))
def cV (h:au G){k:Row}(hk:G[s]?=some k)(hr:rk k≠1):∀x∈[0,1,2,3,4,5,6,7,10,13],s≠x:=λx Y e=>by
 subst e;have:[0,1,2,3,4,5,6,7,10,13].all (λi=>(dc[i]?).any λk=>decide (rk k=1))=true:=by kernel_rfl
 have:=aE this s Y;generalize e:dc[s]?=z_;induction z_ with
 |none=>replace this:=e▸this;exact aS this
 |some k'=>replace this:=e▸this;have e2:=bg h.pre e;replace e2:=hk▸e2;obtain rfl:=oj e2;exact hr (cS this)
def SA (h:TT G):Ty G 2:=(kV (L:=Lv) h.t).ty
def NX (h:TT G)(room:G.length<1000000){pv:V}(hi:bA pv=some []):∃N,ae (n+3) (86,0) [.obj 0,pv] (K G d)=sv (I 2) (K N d)/\Up G N 1:=by
 have no:∀{P:Nat->Prop}{p:Nat},Of G [] p->P p:=λfj=>aq fj λ_ h _=>cj h;refine bc λfm=>?_;obtain ⟨t,N,H,M,h3,h4⟩:=td (d:=d) (ts:=[]) h room hi (λ_ h=>cj h) λg hg=>by
  induction g with
  |nil=>exact Nat.succ_pos _
  |cons x g=>exact no (P:=λ_=>(x::g).length<64) (hg.all x mS)
 have:t=2:=xy M.t h3 (SA M.t) λp=>⟨λhp=>no ((h4 p).mp hp).1,λhp=>cj hp⟩;subst this;exact fm (af N H M)
def NY (h:TT G)(room:G.length<1000000){m:Nat}{pv:V}(hi:bA pv=some [I m])(a:Atom G m)(Ds:∀k,G[m]?=some k->fr k=none/\f9 k=-1):
  ∃N,ae (n+3) (86,0) [.obj 0,pv] (K G d)=sv (I m) (K N d)/\Up G N 1:=by
 have of:∀p,Of G [m] p↔p=m:=λp=>⟨λm5=>aq m5 λx Y hp=>by obtain rfl:=sE Y;rw [g8 a] at hp;exact sE hp,λe=>(af m mS (by rw [g8 a,e];exact mS))⟩
 obtain ⟨t,N,H,M,h3,h4⟩:=td (n:=n) (d:=d) (ts:=[m]) h room hi (λx Y=>by obtain rfl:=sE Y;exact a.ty) λg hg=>by
  have:=te h.t.nd (A:=[(G[m]?).getD (.param 0)]) hg.nd λp hp=>by obtain rfl:=(of p).mp (hg.all p hp);refine aq a.row λk hk _=>?_;exact af k (by refine hk.symm▸?_;exact mS) hk
  exact Nat.lt_of_le_of_lt this (show 1<64 by decide)
 have:t=m:=xy M.t h3 (a.ty.up M.pre) λp=>by rw [h4,of,tc M.pre a.ty.lt,g8 a,List.mem_singleton];refine ⟨(·.1),λe=>⟨e,λk hk=>?_⟩⟩;have:=Ds k (e▸hk);exact ⟨λr hr=>(by replace hr:=this.1▸hr;exact aF hr),λi hi=>(by rw [this.2] at hi;exact uG hi)⟩
 subst this;exact af N H M
def nS.atom {r:Nat}(h:TT G)(oa:cK G s A U a1 a2)(ob:cK G t B qs b1 b2)(m:nS G s t r A B):r=2\/r≠2/\Atom G r/\∀k,G[r]?=some k->fr k=none/\f9 k=-1:=by
 have obj:∀{s:Nat}{U:List Pr}{a b:Option (Nat×Nat)},G[s]?=some (.obj U a b)->s≠2/\Atom G s/\∀k,G[s]?=some k->fr k=none/\f9 k=-1:=λhk=>bx (cV h.t hk (show 8≠1 by decide) 2 (by decide)) (ti h.t hk) (λk e=>by rw [hk] at e;obtain rfl:=oj e;exact ⟨rfl,rfl⟩);rcases m with⟨_,_,_,_,e⟩|⟨_,rfl⟩|⟨_,rfl⟩|⟨_,rfl⟩|⟨_,_,_,hk⟩
 ·exact .inl e
 ·exact .inr (obj oa.row)
 ·exact .inr (obj ob.row)
 ·exact .inr (obj oa.row)
 ·refine .inr (bx (cV h.t hk (show 7≠1 by decide) 2 (by decide)) ⟨(af _ hk rfl),fI λe=>?_⟩ (λk e=>by replace e:=hk▸e;obtain rfl:=oj e;exact ⟨rfl,rfl⟩));have hl:=pC e;have e2:=bg h.t.pre (cM hl);replace e2:=hk▸e2;have:(List.range 16).all (λi=>(dc[i]?).all λk=>decide (rk k≠7))=true:=by kernel_rfl
  have:=aE this r (rI hl);rw [cM hl,<-oj e2] at this;exact aS this
def nS.up {r:Nat}{N:List Row}(u:G<+:N)(m:nS G s t r A B):nS N s t r A B:=m.imp id (.imp id (.imp id (.imp id λh=>(eQ h.1 h.2.1 h.2.2.1 (bg u h.2.2.2)))))
def NZ (h:TT G)(room:G.length+11<=1000000)(oa:cK G s A U a1 a2)(ob:cK G t B qs b1 b2)(pa:A.plain)(pb:B.plain):
  ∃r N,ae (n+16) (116,0) [.obj 0,.list [I s,I t]] (K G d)=sv (I r) (K N d)/\Up G N 11/\nS N s t r A B:=by
 have no:∀{s:Nat},(∀x∈[0,1,2,3,4,5,6,7,10,13],s≠x)->s∉[0,1,2,13]:=λh hm=>by simp only [List.mem_cons,List.not_mem_nil,or_false] at hm;refine hm.elim (λe=>?_) (λpI=>pI.elim (λe=>?_) (λXt=>Xt.elim (λe=>?_) (λe=>?_)))<;>exact h _ (by decide) e
 have wa:=cV h.t oa.row (show 8≠1 by decide);have fin:∀{r:Nat}{N:List Row},ae (n+15) (115,0) [.obj 0,I s,I t] (K G d)=sv (I r) (K N d)->ae (n+16) (116,0) [.obj 0,.list [I s,I t]] (K G d)=sv (I r) (K N d):=FY rfl (λx=>sJ x s t) (no wa) (no (cV h.t ob.row (show 8≠1 by decide)))
 by_cases ne:s=t
 ·subst ne;exact aD s G (fin (aa [.b (sI s)])) ((Up.refl h).mono (lZ _)) (.inr (.inl ⟨rfl,rfl⟩))
 ·refine aw (Px (n:=n) (d:=d) h (Nat.le_of_succ_le room) oa ob pa pb ne) λm aj H u hm=>?_;have pp:ae (n+14) (80,0) [.obj 0,I s] (K G d)=sv (.tup [I s]) (K G d):=by
   have:=nI (n:=n+13) (d:=d) h.t (ti h.t oa.row).ty.lt
   rwa [g8 (ti h.t oa.row)] at this
  have pq:ae (n+14) (80,0) [.obj 0,I t] (K G d)=sv (.tup [I t]) (K G d):=by
   have:=nI (n:=n+13) (d:=d) h.t (ti h.t ob.row).ty.lt
   rwa [g8 (ti h.t ob.row)] at this
  have hl:(jO [] m).length<64:=by
   delta jO jv;by_cases e:m=2
   ·rw [if_pos e];decide
   ·rw [if_neg e];exact (nl rfl)
  have un:∃aB,ae (n+14) (86,0) [.obj 0,.list ((bZ ltN (jO [] m)).map I)] (K aj d)=sv (I m) (K aB d)/\Up aj aB 1:=by
   rcases hm.atom u.t (oa.up u.pre) (ob.up u.pre) with rfl|⟨n2,at',st⟩
   ·exact NX u.t (u.room (m:=1) room) rfl
   ·delta jO;exact (if_neg n2).symm▸(NY u.t (u.room (m:=1) room) rfl at' st)
  exact aq un λaB M u2=>aD m aB (fin (aa [.b (neN ne),.b (neN ((cV h.t ob.row (show 8≠1 by decide)) 1 (by decide))),.b (neN (wa 1 (by decide))),.r pp,.z 1,.f (cD (aX [.r pq,.z 1,.f (cD (Hy (s:=s) (t:=t) (other:=.unset) (met:=.unset) H hl (by decide)) (dk (by kernel_rfl)))] (by kernel_rfl):∀Z,aZ (n+14) 11 (115,0) 0 (I s) (wX s t [] .unset .unset .unset (K G d)) Z=Z .next (wX s t (jO [] m) (.val (I s)) (.val (I t)) (.val (I m)) (K aj d))) (dk (by kernel_rfl))),.l (sN hl),.r M])) (u.trans u2) (hm.up u2.pre)
end
structure l_ (G:List Row)(O:Ob)(U:List Pr)(s c:Option (Nat×Nat)):Prop where
 gp:GP U
 fs:∀x,both (b9 G) (dz U x) (O.f.lookup x)
 hs:both (λc m=>Val Lv G c.1 m) s O.s
 hc:both (λc m=>Val Lv G c.1 m) c O.c
def cK.r {G:List Row}{t:Nat}{O:Ob}{U:List Pr}{s c:Option (Nat×Nat)}(h:cK G t O U s c):l_ G O U s c:=⟨h.gp,h.fs,h.hs,h.hc⟩
def l_.at' {G:List Row}{t:Nat}{O:Ob}{U:List Pr}{s c:Option (Nat×Nat)}(h:l_ G O U s c)(hr:G[t]?=some (.obj U s c)):cK G t O U s c:=⟨hr,h.gp,h.fs,h.hs,h.hc⟩
def l_.up {G N:List Row}{O:Ob}{U:List Pr}{s c:Option (Nat×Nat)}(u:G<+:N)(h:l_ G O U s c):l_ N O U s c:=⟨h.gp,λx=>(h.fs x).up λ_ _=>b9.up u,h.hs.up λ_ _=>Val.up u,h.hc.up λ_ _=>Val.up u⟩
noncomputable def iT (a b:Fi):Nat:=if a.opt=true/\b.opt=true then a.m&&&b.m else wide a.opt a.m&&&wide b.opt b.m
noncomputable def mF:Option Fi->Option Fi->Option Fi
 |none,b=>b
 |a,none=>a
 |some a,some b=>some ⟨iT a b,a.opt&&b.opt,false⟩
noncomputable def gz:Option Nat->Option Nat->Option Nat
 |none,b=>b
 |a,none=>a
 |some a,some b=>some (a&&&b)
structure rr (A B bj:Ob):Prop where
 f:∀x,bj.f.lookup x=mF (A.f.lookup x) (B.f.lookup x)
 s:bj.s=gz A.s B.s
 c:bj.c=gz A.c B.c
section
variable{n s t:Nat} {G:List Row} {d:Sh} {A B:Ob} {U qs:List Pr} {a1 a2 b1 b2:Option (Nat×Nat)}
def Be (c:Option (Nat×Nat)):aN .Eq (cv c) (.val (.tup []))=some c.isNone:=by cases c<;>rfl
def D9 {a b:Option (Nat×Nat)}{x y:Option Nat}(h:TT G)(room:G.length+1<=1000000)(ha:both (λc m=>Val Lv G c.1 m) a x)(hb:both (λc m=>Val Lv G c.1 m) b y):
  ∃c N,ae (n+9) (123,0) [.obj 0,cv a,cv b] (K G d)=sv (cv c) (K N d)/\Up G N 1/\both (λc m=>Val Lv N c.1 m) c (gz x y):=by
 have ea:=Be a;have eb:=Be b;have u:=(Up.refl h).mono (lZ 1)
 induction x with
 |none=>induction a with
  |some a=>exact ha.elim
  |none=>exact ⟨b,G,by induction b with
   |none=>exact aa [.b ea,.b eb]
   |some b=>exact aa [.b ea,.b eb],u,hb⟩
 |some x=>induction a with
  |none=>exact ha.elim
  |some a=>induction y with
   |none=>induction b with
    |some b=>exact hb.elim
    |none=>exact aD (some a) G (aa [.b ea,.b eb,.b eb]) u ha
   |some y=>induction b with
    |none=>exact hb.elim
    |some b=>exact aw (xf (n:=n) (d:=d) (pv:=.tup [I a.1,I b.1]) Gv Vv h room rfl (λx=>sJ x a.1 b.1) ha hb) λr N H M h3=>aD (some (r,a.2&&&b.2)) N (aa [.b ea,.b eb,.z 2,.r H,.z 2,.l (eA a.2 b.2)]) M h3
def b9.flat {p:Pr}{a:Fi}(h:b9 G p a)(hh:a.cP=false):p.src=0/\((p.flags=0/\a.opt=false)\/(p.flags=1/\a.opt=true)\/(p.flags=3/\a.opt=true)):=by
 have:=h.f;unfold rq at this;rw [hh] at this;simp only [List.mem_cons,List.not_mem_nil,or_false,Prod.mk.injEq,decide_eq_true_eq,Bool.false_eq_true,and_false,and_true] at this;rcases this with h|h|h
 ·exact ⟨h.2.1,.inl ⟨h.1,h.2.2⟩⟩
 ·exact ⟨h.2.1,.inr (.inl ⟨h.1,h.2.2⟩)⟩
 ·exact ⟨h.2.1,.inr (.inr ⟨h.1,h.2.2⟩)⟩
def LA {p q:Pr}{a b:Fi}(h:TT G)(room:G.length+2<=1000000)(ha:b9 G p a)(hb:b9 G q b)(na:a.cP=false)(nb:b.cP=false):
  ∃r N,ae (n+9) (121,0) [.obj 0,pv p,pv q] (K G d)=sv (I r) (K N d)/\Up G N 2/\Val Lv N r (iT a b):=by
 have e1:aN .NotEq (I p.src) (.val (I q.src))=some false:=by refine ((ha.flat na).1).symm▸((hb.flat nb).1).symm▸?_;rfl
 have op:=sV p;have oq:=sV q;rw [ha.opt] at op;rw [hb.opt] at oq;have fa:=eA p.flags 1;have fb:=eA q.flags 1;have fin:∀{s t A B c:Nat}{aB:List Row},Up G aB c->c<=1->Val Lv aB s A->Val Lv aB t B->A&&&B=iT a b->
   (∀r N,ae (n+8) (116,0) [.obj 0,.tup [I s,I t]] (K aB d)=sv (I r) (K N d)->ae (n+9) (121,0) [.obj 0,pv p,pv q] (K G d)=sv (I r) (K N d))->
   ∃r N,ae (n+9) (121,0) [.obj 0,pv p,pv q] (K G d)=sv (I r) (K N d)/\Up G N 2/\Val Lv N r (iT a b):=λ{s t A B c aB} u hc T vt e go=>by
  exact aw (xf (n:=n) (d:=d) (pv:=.tup [I s,I t]) Gv Vv u.t (u.cJ room (Nat.add_le_add_right hc 1)) rfl (λx=>sJ x s t) T vt) λr N H M h3=>aD r N (go r N H) ((u.trans M).mono (Nat.add_le_add_right hc 1)) (e▸h3)
 generalize o1:a.opt=z_;induction z_ with
 |true=>
  rw [o1] at op
  cases o2:b.opt with
  |true=>rw [o2] at oq;exact fin (Up.refl h) (lZ _) ha.v hb.v (by delta iT;rw [o1,o2];rfl) λr N H=>aa [.z 2,.b e1,.z 3,.l fa,.b op,.z 1,.l fb,.b oq,.z 1,.l fb,.b oq,.z 1,.l fa,.b op,.r H]
  |false=>rw [o2] at oq;obtain ⟨s',aj,H,M,h3⟩:=oO (n:=n+4) (d:=d) h (nT (lS _) room) ha.v;exact fin M (nR _) h3 (hb.v.up M.pre) (by delta iT;rw [o1,o2];rfl) λr N h4=>aa [.z 2,.b e1,.z 3,.l fa,.b op,.z 1,.l fb,.b oq,.r H,.z 1,.l fb,.b oq,.r h4]
 |false=>
  rw [o1] at op
  cases o2:b.opt with
  |true=>rw [o2] at oq;obtain ⟨s',aj,H,M,h3⟩:=oO (n:=n+4) (d:=d) h (nT (lS _) room) hb.v;exact fin M (nR _) (ha.v.up M.pre) h3 (by delta iT;rw [o1,o2];rfl) λr N h4=>aa [.z 2,.b e1,.z 3,.l fa,.b op,.z 1,.l fb,.b oq,.z 1,.l fa,.b op,.r H,.r h4]
  |false=>rw [o2] at oq;exact fin (Up.refl h) (lZ _) ha.v hb.v (by delta iT;rw [o1,o2];rfl) λr N H=>aa [.z 2,.b e1,.z 3,.l fa,.b op,.z 1,.l fb,.b oq,.r H]
def LB {p q:Pr}{a b:Fi}(h:TT G)(room:G.length+2<=1000000)(hn:p.name=q.name)(ha:b9 G p a)(hb:b9 G q b)(na:a.cP=false)(nb:b.cP=false):
  ∃r N,ae (n+10) (122,0) [.obj 0,pv p,pv q] (K G d)=sv (pv r) (K N d)/\Up G N 2/\r.name=p.name/\b9 N r ⟨iT a b,a.opt&&b.opt,false⟩:=by
 refine aw (LA (n:=n) (d:=d) h room ha hb na nb) λr N H M h3=>?_;have pa:=ha.flat na;have pb:=hb.flat nb;obtain ⟨pn,pt,pf,U⟩:=p;obtain ⟨qn,qt,qf,qs⟩:=q;obtain ⟨rfl,pa⟩:=pa;obtain ⟨rfl,pb⟩:=pb;dsimp only at pa pb;refine ⟨⟨pn,r,pf&&&qf&&&39|||(pf|||qf)&&&24,0⟩,N,?_,M,rfl,h3,?_⟩
 ·have w:ae (n+10) (122,0) [.obj 0,pv ⟨pn,pt,pf,0⟩,pv ⟨qn,qt,qf,0⟩] (K G d)=sv (.tup [.str pn,I r,.int (Builtin.bitOr (pf&&&qf&&&39:Nat) (((pf|||qf)&&&24:Nat):Int)),I 0]) (K N d):=aa [.z 2,.l (eA pf qf),.z 3,.l (eA (pf&&&qf) 39),.z 2,.l (qq pf qf),.z 1,.l (eA (pf|||qf) 24),.z 1,.r H,.z 3];rw [sG] at w;exact w
 ·delta rq;rcases pa with⟨f1,o1⟩|⟨f1,o1⟩|⟨f1,o1⟩<;>rcases pb with⟨f2,o2⟩|⟨f2,o2⟩|⟨f2,o2⟩<;>subst f1<;>subst f2<;>dsimp only<;>refine o1.symm▸o2.symm▸?_<;>rfl
end
section
variable{n s t:Nat} {G:List Row} {d:Sh} {A B:Ob} {U qs:List Pr} {a1 a2 b1 b2:Option (Nat×Nat)}
noncomputable def rX (one other:V)(S:Es)(lp ln:LV)(σ:St):X:=⟨ez (124,0),[nv "tab" (.val (.obj 0)),nv "one" (.val one),nv "other" (.val other),nv "found" (.md (sd pv S)),(.ofString "prop",lp),(.ofString "name",ln),nv "props" .unset,nv "sindex" .unset],σ⟩
def vi (U:List Pr)(a b:Option (Nat×Nat)):cz (.val (rv (.obj U a b))) (.int 4)=some (cv a):=rfl
def vj (U:List Pr)(a b:Option (Nat×Nat)):cz (.val (rv (.obj U a b))) (.int 5)=some (cv b):=rfl
noncomputable def C5 (F ai:Str->Option Fi)(U:List Pr)(x:Str):Option Fi:=if(dz U x).isSome then mF (F x) (ai x) else F x
def Py {one other:V}{ai:Str->Option Fi}:∀{qs:List Pr}{S:Es}{F:Str->Option Fi}{G:List Row}{lp ln:LV},TT G->G.length+2*qs.length<=1000000->GP qs->(∀q∈qs,∃b,ai q.name=some b/\b9 G q b/\b.cP=false)->
  GE S->(∀x,both (b9 G) (S.lookup x) (F x))->(∀x a,F x=some a->a.cP=false)->
  ∃kI bG kM N,(∀Z,cF (n+10) 11 (124,0) 0 (qs.map pv) (rX one other S lp ln (K G d)) Z=Z .next (rX one other kI bG kM (K N d)))/\Up G N (2*qs.length)/\GE kI/\∀x,both (b9 N) (kI.lookup x) (C5 F ai qs x):=by
 intro z_
 induction z_ with
 |nil=>intro S F G lp ln h _ _ _ g hf _;exact kh S lp ln G (dk (by kernel_rfl)) (Up.refl h) g hf
 |cons q qs ak=>
  intro S F G lp ln h room gq hq g hf hh;refine bc λbu=>bW (hq q mS) λb hb fb nb=>?_;have hn:=gq.nm mS;have hi:=Cb (f:=pv) g.ok (eM hn);have Y:=hf q.name;have step:∃r aj,Up G aj 2/\r.name=q.name/\(∃c,mF (F q.name) (ai q.name)=some c/\b9 aj r c/\c.cP=false)/\∀Z,aZ (n+10) 11 (124,0) 0 (pv q) (rX one other S lp ln (K G d)) Z=Z .next (rX one other (dQ r.name r S) (.val (pv q)) (.val (.str q.name)) (K aj d)):=by
   generalize e:S.lookup q.name=z_;induction z_ with
   |none=>
    rw [e] at hi Y;generalize e2:F q.name=z_;induction z_ with
    |some a=>rw [e2] at Y;exact Y.elim
    |none=>exact d6 q G ((Up.refl h).mono (lZ _)) rfl (bX b (by refine hb.symm▸?_;rfl) fb nb) (aX [.z 1,.b hi,.e (g.dput hn)])
   |some p=>
    rw [e] at hi Y;generalize e2:F q.name=z_;induction z_ with
    |none=>rw [e2] at Y;exact Y.elim
    |some a=>rw [e2] at Y;have pn:p.name=q.name:=(g.nm _ (jd e)).2;refine hZ (LB (n:=n) (d:=d) h (nT (nA (Nat.le_mul_of_pos_right 2 (Nat.succ_pos _)) _) room) pn Y fb (hh _ _ e2) nb) λr aj H M h3 h4=>?_;have hp:=g.dput (h3.symm▸pn.symm▸hn);rw [h3.trans pn] at hp;refine d6 r aj M (h3.trans pn) (bX _ (by refine hb.symm▸?_;rfl) h4 rfl) ?_;exact (h3.trans pn).symm▸(aX [.z 1,.b hi,.v (Bc g.ok (eM hn) e),.r H,.e hp])
  refine bc λcG=>?_;refine hZ step λr aj u rn jt ht=>bW jt λc hc fc nc=>?_;obtain ⟨kI,bG,kM,N,a1,a2,a3,a4⟩:=ak (F:=λx=>if x=q.name then some c else F x) u.t (u.cJ room (by rw [Nat.add_comm];exact nR (2*(qs.length+1)))) gq.tail.1 (λx Y=>by
   exact bW (hq x (aT _ Y)) λb y2 y3 y4=>(bX b y2 (y3.up u.pre) y4)) (g.put (rn▸hn)) (λx=>by
   rw [wO,rn];by_cases e:x=q.name
   ·rw [if_pos e,if_pos e];exact fc
   ·rw [if_neg e,if_neg e];exact (hf x).up λ_ _=>b9.up u.pre) λx a ha=>by
   by_cases e:x=q.name
   ·replace ha:=(if_pos e)▸ha;obtain rfl:=oj ha;exact nc
   ·replace ha:=(if_neg e)▸ha;exact hh x a ha
  refine cG (bu ?_);refine kh kI bG kM N (cD ht a1) ((u.trans a2).mono (by rw [Nat.add_comm];exact nR (2*(qs.length+1)))) a3 (λx=>?_);have:=a4 x;unfold C5 at this⊢;rw [tG];by_cases e:x=q.name
  ·subst e;rw [gq.tail.2] at this;have this:both (b9 N) (kI.lookup q.name) (if q.name=q.name then some c else F q.name):=this;rw [if_pos rfl] at this;rw [if_pos rfl];show both _ _ (mF (F q.name) (ai q.name));rw [hc];exact this
  ·simp only [if_neg e] at this⊢;exact this
def LC (h:TT G)(room:G.length+8<=1000000)(oa:l_ G A U a1 a2)(ob:l_ G B qs b1 b2)(pa:A.plain)(pb:B.plain):
  ∃rs c1 c2 N,ae (n+11) (124,0) [.obj 0,rv (.obj U a1 a2),rv (.obj qs b1 b2)] (K G d)=sv (rv (.obj rs c1 c2)) (K N d)/\Up G N 8/\∀bj,rr A B bj->l_ N bj rs c1 c2:=by
 refine bc λCw=>?_;refine oe (Py (n:=n) (d:=d) (one:=rv (.obj U a1 a2)) (other:=rv (.obj qs b1 b2)) (ai:=(B.f.lookup ·)) (S:=hY [] U) (lp:=.unset) (ln:=.unset) h (nT (nA (nT (Nat.mul_le_mul_left 2 ob.gp.len) (nl rfl)) _) room) ob.gp (λq hq=>by
  have hl:dz qs q.name=some q:=nJ ob.gp.nd (mM hq);have:=ob.fs q.name;replace this:=hl▸this;generalize e:B.f.lookup q.name=z_;induction z_ with
  |none=>rw [e] at this;exact this.elim
  |some b=>rw [e] at this;exact (bX b rfl this ((pb _ _ e).2))) (GE.nil.adds λp hp=>oa.gp.nm hp) (λx=>by rw [Ag (S:=[]) oa.gp];exact oa.fs x) λx a e=>(pa _ _ e).2) λS lp ln aj hl u1 g he=>?_
 have u1:=u1.mono (Nat.mul_le_mul_left 2 ob.gp.len);refine aw (D9 (n:=n+1) (d:=d) u1.t (u1.cJ room (nl rfl)) (oa.hs.up λ_ _=>Val.up u1.pre) (ob.hs.up λ_ _=>Val.up u1.pre)) λc1 aB M u2 v2=>?_;have cU:=u1.trans u2;refine aw (D9 (n:=n+1) (d:=d) cU.t (cU.cJ room (nl rfl)) (oa.hc.up λ_ _=>Val.up cU.pre) (ob.hc.up λ_ _=>Val.up cU.pre)) λc2 cC h3 u3 v3=>Cw ?_;have gl:=g.len;have sl:=Fc g;have hc:=F1 (m:=n+10) (dd:=38) (i:=(124,0)) (k:=0) (σ:=K aj d) (vars:=[nv "tab" (.val (.obj 0)),nv "one" (.val (rv (.obj U a1 a2))),nv "other" (.val (rv (.obj qs b1 b2))),nv "found" (.val (.dict (sd pv S))),(.ofString "prop",lp),(.ofString "name",ln),nv "props" .unset,nv "sindex" .unset]) (by kernel_rfl) (xs:=bZ fR (S.map (·.1))) (λx p hp=>by have e:cz (.val (.dict (sd pv S))) (.str x)=some (pv p):=Bb g.ok (g.ok _ (jd hp)) hp;exact ew [.v e]) (Af g)
 refine x8 (n7 S) c1 c2 cC ?_ (cU.trans u3) (λbj hM=>⟨(sP g).1,λx=>?_,hM.s▸v2.up λ_ _=>Val.up u3.pre,hM.c▸v3⟩)
 ·exact aa [.r (Pu (n:=n+9) (σ:=K G d) (s:=a1) (c:=a2) oa.gp),.z 2,.f hl,.l (Fb (f:=pv) (S:=S) ((Nat.lt_of_le_of_lt ‹_› (nl rfl)))),.z 1,.g (gT (n:=((bZ fR (S.map (·.1))).map V.str).length) (by rw [lM];exact nT sl.1 (nl rfl))),.c hc,.l (yn (xs:=(n7 S).map pv) (by rw [lM];exact nT sl.2 (nl rfl))),.v (vi U a1 a2),.v (vi qs b1 b2),.r M,.z 6,.v (vj U a1 a2),.v (vj qs b1 b2),.r h3]
 ·rw [(sP g).2,hM.f];have:=(he x).up λa b h=>h.up (u2.pre.trans u3.pre);have hb:=ob.fs x;unfold C5 at this;generalize e:dz qs x=z_;induction z_ with
  |some q=>rw [e] at this;exact this
  |none=>
   rw [e] at this hb;generalize e2:B.f.lookup x=z_;induction z_ with
   |some b=>rw [e2] at hb;exact hb.elim
   |none=>
    have:both (b9 cC) (S.lookup x) (A.f.lookup x):=this;generalize e3:A.f.lookup x=z_;induction z_ with
    |none=>rw [e3] at this;exact this
    |some a=>rw [e3] at this;exact this
end
def yU (d:Sh)(k b:Nat):Prop:=∀(n:Nat)(G:List Row)(t:Nat)(U:List Pr)(s c:Option (Nat×Nat)),au G->G[t]?=some (.ref k)->G[b]?=some (.obj U s c)->ae (n+1) (132,0) [.obj 0,I t] (K G d)=sv (I b) (K G d)
def Ob.nil (O:Ob):Prop:=O.f=[]/\O.s=none/\O.c=none
structure uC (G:List Row)(t s u:Nat)(A B:Ob):Prop where
 row:G[t]?=some (.inter [s,u])
 l:∃U x y,cK G s A U x y
 r:∃U x y,cK G u B U x y
 pl:A.plain
 pr:B.plain
def uC.up {G N:List Row}{t s u:Nat}{A B:Ob}(p:G<+:N)(h:uC G t s u A B):uC N t s u A B:=⟨bg p h.row,h.l.imp λ_ h=>h.imp λ_ h=>h.imp λ_ h=>h.up p,h.r.imp λ_ h=>h.imp λ_ h=>h.imp λ_ h=>h.up p,h.pl,h.pr⟩
inductive dG (G:List Row)(d:Sh)(t:Nat)(O:Ob):Prop
 |obj (h:∃U s c,cK G t O U s c)
 |ref (k b:Nat) (hk:G[t]?=some (.ref k)) (hb:yU d k b) (h:∃U s c,cK G b O U s c)
 |inter (s u:Nat) (A B:Ob) (h:uC G t s u A B) (m:rr A B O)
 |whole (h:t=10) (ho:O.nil)
def rH {G N:List Row}{t:Nat}{O:Ob}(p:G<+:N)(h:∃U s c,cK G t O U s c):∃U s c,cK N t O U s c:=h.imp λ_ h=>h.imp λ_ h=>h.imp λ_ h=>h.up p
def dG.up {G N:List Row}{d:Sh}{t:Nat}{O:Ob}(p:G<+:N)(h:dG G d t O):dG N d t O:=by
 induction h with
 |obj h=>exact .obj (rH p h)
 |ref k b hk hb h=>exact .ref k b (bg p hk) hb (rH p h)
 |inter s u A B h m=>exact .inter s u A B (h.up p) m
 |whole h ho=>exact .whole h ho
section
variable{n s t:Nat} {G:List Row} {d:Sh} {A B O:Ob} {U qs:List Pr} {a1 a2 b1 b2:Option (Nat×Nat)}
noncomputable def i8 (t:Nat)(turn row:LV)(σ:St):X:=⟨ez (132,0),[nv "tab" (.val (.obj 0)),nv "t" (.val (I t)),(.ofString "turn",turn),(.ofString "row",row)],σ⟩
noncomputable def yq:List V:=(List.range 39).map λi=>.int ((i+1:Nat):Int)
def Fd {k:Row}{r:Nat}(ht:∀Z,aZ n 11 (132,0) 0 (.int 0) (i8 t .unset .unset (K G d)) Z=Z (.ret (.val (I r))) (i8 t (.val (.int 0)) (.val (rv k)) (K G d))):ae (n+1) (132,0) [.obj 0,I t] (K G d)=sv (I r) (K G d):=aa [.z 2,.f (j0 (T:=yq) (by kernel_rfl) ht)]
def N0 (h:au G)(hk:G[t]?=some (.obj U a1 a2)):ae (n+1) (132,0) [.obj 0,I t] (K G d)=sv (I t) (K G d):=Fd (k:=.obj U a1 a2) (aX [.v (aQ h hk),.z 2])
def zF (h:au G)(hk:G[t]?=some (.obj U a1 a2)):ae (n+3) (184,4) [.obj 9,I t] (K G d)=sv (I t) (K G d):=aa [.r (by exact aa [.v (aQ h hk),.z 6,.r (N0 (n:=n) (d:=d) h hk)] (by kernel_rfl):ae (n+2) (183,0) [.obj 9,I t] (K G d)=sv (I t) (K G d))]
noncomputable def sX (parts:V)(rows out row:LV)(σ:St):X:=⟨ez (125,0),[nv "host" (.val (.obj 9)),nv "parts" (.val parts),(.ofString "rows",rows),(.ofString "out",out),(.ofString "row",row)],σ⟩
def Fe {parts:V}{k:Row}{vars:bL}(h:au G)(hk:G[t]?=some k)(hs:ae n (184,4) [.obj 9,I t] (K G d)=sv (I t) (K G d))(hv:vars=(sX parts .unset .unset .unset (K G d)).vars):∀Z,fz n 39 (125,0) 0 vars (I t) (K G d) Z=Z (some (rv k)) (K G d):=by subst hv;exact ew [.r hs,.v (aQ h hk)]
def KL (h:TT G)(room:G.length+9<=1000000)(i:uC G t s u A B)(m:rr A B O):
  ∃r N rs c1 c2,ae (n+12) (125,0) [.obj 9,.tup [I s,I u]] (K G d)=sv (I r) (K N d)/\Up G N 9/\cK N r O rs c1 c2:=by
 refine bc λbu=>eU i.l λU a1 a2 oa=>eU i.r λqs b1 b2 ob=>gJ (LC (n:=n) (d:=d) h (Nat.le_of_succ_le room) oa.r ob.r i.pl i.pr) λrs c1 c2 aj H u1 hr=>aw (fN (n:=n+10) (d:=d) (k:=.obj rs c1 c2) u1.t (List.all_eq_true.mpr λp hp=>eM ((hr O m).gp.nm hp)) (u1.room (m:=1) room) (λU e=>nomatch e)) λr aB M u2 h3=>bu ?_;have ht:∀Z,aZ (n+11) 11 (125,0) 0 (rv (.obj qs b1 b2)) (sX (.tup [I s,I u]) (.val (.list [rv (.obj U a1 a2),rv (.obj qs b1 b2)])) (.val (rv (.obj U a1 a2))) .unset (K G d)) Z=Z .next (sX (.tup [I s,I u]) (.val (.list [rv (.obj U a1 a2),rv (.obj qs b1 b2)])) (.val (rv (.obj rs c1 c2))) (.val (rv (.obj qs b1 b2))) (K aj d)):=aX [.r H];exact mN r aB rs c1 c2 (aa [.z 2,.c (fY (Fe h.t oa.row (zF (d:=d) h.t oa.row) rfl) (fY (Fe (parts:=.tup [I s,I u]) h.t ob.row (zF (n:=n+8) h.t ob.row) rfl) (jc (by kernel_rfl)))),.z 3,.f (cD ht (dk (by kernel_rfl))),.r M]) (u1.trans u2) (((hr O m).up u2.pre).at' h3)
def tj (h:TT G)(room:G.length+9<=1000000)(so:dG G d t O):
  ∃r N rs c1 c2,ae (n+14) (184,4) [.obj 9,I t] (K G d)=sv (I r) (K N d)/\Up G N 9/\cK N r O rs c1 c2:=by
 have u:=(Up.refl h).mono (lZ 9);have fin:∀{r:Nat}{N:List Row},ae (n+13) (183,0) [.obj 9,I t] (K G d)=sv (I r) (K N d)->ae (n+14) (184,4) [.obj 9,I t] (K G d)=sv (I r) (K N d):=λe=>aa [.r e]
 induction so with
 |obj H=>exact eU H λU a1 a2 oa=>mN t G U a1 a2 (zF h.t oa.row) u oa
 |ref k b hk hb H=>exact eU H λU a1 a2 oa=>mN b G U a1 a2 (fin (aa [.v (aQ h.t hk),.z 6,.r (hb (n+11) G t U a1 a2 h.t hk oa.row)])) u oa
 |inter s u A B i m=>exact jI (KL (n:=n) (d:=d) h room i m) λr N rs c1 c2 H M h3=>mN r N rs c1 c2 (fin (aa [.v (aQ h.t i.row),.z 3,.r H])) M h3
 |whole ht ho=>
  subst ht;have hk:G[10]?=some (.key "object"):=bg h.t.pre rfl;refine ⟨11,G,[],none,none,fin (aa [.v (aQ h.t hk),.z 6,.r (Fd (k:=.key "object") (aX [.v (aQ h.t hk),.z 6] (by kernel_rfl)):ae (n+12) (132,0) [.obj 0,I 10] (K G d)=sv (I 11) (K G d))]),u,bg h.t.pre rfl,GE.nil,λx=>?_,?_,?_⟩
  ·refine ho.1.symm▸?_;exact trivial
  ·rw [ho.2.1];exact trivial
  ·rw [ho.2.2];exact trivial
end
noncomputable def dH:List Str:=[.ofString "p",.ofString "q",.ofString "0",.ofString "1",.ofString "2",.ofString "length",.ofString "7"]
noncomputable def fE (x:Str):Bool:=[Str.ofString "0",.ofString "1",.ofString "2",.ofString "7"].contains x
noncomputable def ig (x:Str):Bool:=fE x||x==.ofString "#"
inductive e9 (G:List Row)(i:Nat)(x:Str):Prop
 |str (f:Nat) (hk:G[i]?=some (.str x f)) (Y:x∈dH)
 |num (m f:Nat) (hk:G[i]?=some (.num m f)) (hm:m<8) (e:x=.ofString (toString (m:Int))) (Y:x∈dH)
 |string (h:i=6) (e:x=.ofString "")
 |number (h:i=7) (e:x=.ofString "#")
def e9.up {G N:List Row}{i:Nat}{x:Str}(p:G<+:N)(h:e9 G i x):e9 N i x:=by
 induction h with
 |str f hk Y=>exact .str f (bg p hk) Y
 |num m f hk hm e Y=>exact .num m f (bg p hk) hm e Y
 |string h e=>exact .string h e
 |number h e=>exact .number h e
section
variable{n i t:Nat} {G:List Row} {d:Sh} {x:Str} {σ:St}
def rt (Y:x∈dH):cO x:=by revert x;apply fG;kernel_rfl
def zG (Y:x∈dH):ae (n+1) (143,0) [.str x] σ=sv (.bool (fE x)) σ:=by revert x;apply fG;kernel_rfl
def EG (Y:x∈dH):ae (n+2) (144,0) [.str x] σ=sv (.bool (fE x)) σ:=by revert x;apply fG;kernel_rfl
def Rh (Y:x∈dH):ae (n+1) (167,0) [.str x] σ=sv (.bool (fE x)) σ:=by revert x;apply fG;kernel_rfl
noncomputable def oo (x:Str):V:=if x∈dH then .str x else .none
def Pz {m:Nat}(h:m<8):bQ (m:Int)=true:=by delta bQ;rw [Bool.and_eq_true,decide_eq_true_eq,decide_eq_true_eq];exact yz (nT (Nat.le_of_lt h) (nl rfl))
def zm (h:au G)(k:e9 G i x):ae (n+2) (166,0) [.obj 0,I i] (K G d)=sv (oo x) (K G d):=by
 induction k with
 |str f hk Y=>exact (show oo x=.str x from if_pos Y).symm▸(aa [.v (aQ h hk),.z 2,.r (aa [.v (aQ h hk),.z 3] (by kernel_rfl):ae (n+1) (165,0) [.obj 0,I i] (K G d)=sv (.str x) (K G d))])
 |num m f hk hm e Y=>
  have b:blt .str [I m]=some (.val (.str x)):=by show(guard (bQ m) _:Option LV)=_;refine (Pz hm).symm▸e.symm▸?_;rfl
  exact (show oo x=.str x from if_pos Y).symm▸(aa [.v (aQ h hk),.z 2,.r (aa [.v (aQ h hk),.z 5,.l b] (by kernel_rfl):ae (n+1) (165,0) [.obj 0,I i] (K G d)=sv (.str x) (K G d))])
 |string e1 e=>subst e1 e;have hk:G[6]?=some (.key "string"):=bg h.pre rfl;exact aa [.v (aQ h hk),.z 2]
 |number e1 e=>subst e1 e;have hk:G[7]?=some (.key "number"):=bg h.pre rfl;exact aa [.v (aQ h hk),.z 2]
def e9.row (h:au G)(k:e9 G i x):∃k,G[i]?=some k/\rk k≠6/\rk k≠7/\rk k≠12/\rk k<10/\i≠2/\i≠13:=by
 induction k with
 |str f hk Y=>exact x7 _ hk ((show 3≠6/\3≠7/\3≠12/\3<10 by decide).1) (show 3≠7 by decide) (show 3≠12 by decide) (show 3<10 by decide) (cV h hk (show 3≠1 by decide) 2 (by decide)) (cV h hk (show 3≠1 by decide) 13 (by decide))
 |num m f hk Y e=>exact x7 _ hk (show 4≠6 by decide) (show 4≠7 by decide) (show 4≠12 by decide) (show 4<10 by decide) (cV h hk (show 4≠1 by decide) 2 (by decide)) (cV h hk (show 4≠1 by decide) 13 (by decide))
 |string e1 e=>subst e1;exact x7 _ (bg h.pre rfl) (show 1≠6 by decide) (show 1≠7 by decide) (show 1≠12 by decide) (show 1<10 by decide) (by decide) (by decide)
 |number e1 e=>subst e1;exact x7 _ (bg h.pre rfl) (show 1≠6 by decide) (show 1≠7 by decide) (show 1≠12 by decide) (show 1<10 by decide) (by decide) (by decide)
def ip {k:Row}(h:au G)(hk:G[t]?=some k)(DD:rk k≠14)(qj:rk k≠15):ae (n+1) (184,2) [.obj 9,I t] (K G d)=sv (I t) (K G d):=aa [.v (aQ h hk),.v (cq k),.b (eS (dF DD)),.v (cq k),.b (eS (dF qj))]
def ma (a:Nat)(l:List Nat)(h:a∉l):nW (I a) (l.map I)=some false:=by
 have hm:a_ (h9 7) (l.map I)=some (l.map λx:Nat=>PyData.int (x:Int)):=by
  clear h
  induction l with
  |nil=>rfl
  |cons x l ih=>show(a_ (h9 7) (l.map I)).bind _=_;refine ih.symm▸?_;rfl
 show(a_ (h9 7) (l.map I)).bind _=_;refine hm.symm▸(congrArg some (fI λe=>aq (List.any_eq_true.mp e) λy hy e=>?_));(refine bT hy λz hz fm=>?_;subst fm);exact h (Int.natCast_inj.mp (bE e)▸hz)
def o5 {k:Row}(h:au G)(hk:G[t]?=some k)(h6:rk k≠6)(h7:rk k≠7)(d9:rk k≠12)(hl:rk k<10):ae (n+1) (164,0) [.obj 0,I t] (K G d)=sv (.bool false) (K G d):=aa [.v (aQ h hk),.v (cq k),.b (ma (rk k) [10,14,15,16,17,19] (PY hl rfl):aN .In (I (rk k)) (.val (.tup [.int 10,.int 14,.int 15,.int 16,.int 17,.int 19]))=some false),.v (cq k),.b (eS (dF h6)),.v (cq k),.b (eS (dF h7)),.v (cq k),.b (eS (dF d9))]
end
noncomputable def d_ (G:List Row)(r:Int):Option Nat->Prop
 |none=>r=-1
 |some m=>∃t:Nat,r=t/\Val Lv G t m
noncomputable def jZ (s c:Option Nat)(b:Bool):Option Nat:=if b=true/\c.isSome=true then c else s
noncomputable def Ob.at (O:Ob)(x:Str):Option Nat:=match O.f.lookup x with
 |some a=>some (wide a.opt a.m)
 |none=>jZ O.s O.c (ig x)
structure kN (G:List Row)(d:Sh)(t:Nat)(w r:List Nat):Prop where
 row:∃k,G[t]?=some k/\rk k∉r
 wh:∀x∈w,t≠x
 op:∀n,ae (n+3) (164,0) [.obj 0,I t] (K G d)=sv (.bool false) (K G d)
section
variable{n t:Nat} {G:List Row} {d:Sh} {x:Str} {O A B:Ob} {U:List Pr} {s c:Option (Nat×Nat)}
def qP (c:Option (Nat×Nat)):aN .NotEq (cv c) (.val (.tup []))=some c.isSome:=by cases c<;>rfl
noncomputable def oX (t:Nat)(row:V)(lp:LV)(σ:St):X:=⟨ez (164,0),[nv "tab" (.val (.obj 0)),nv "t" (.val (I t)),nv "row" (.val row),(.ofString "part",lp),nv "elem" .unset],σ⟩
def zH {u:Nat}{row:V}{lp:LV}(hu:ae n (164,0) [.obj 0,I u] (K G d)=sv (.bool false) (K G d)):∀Z,aZ n 10 (164,0) 0 (I u) (oX t row lp (K G d)) Z=Z .next (oX t row (.val (I u)) (K G d)):=aX [.r hu]
def MH {u v:Nat}(h:au G)(hk:G[t]?=some (.inter [u,v]))(hu:∀n,ae (n+1) (164,0) [.obj 0,I u] (K G d)=sv (.bool false) (K G d))(hv:∀n,ae (n+1) (164,0) [.obj 0,I v] (K G d)=sv (.bool false) (K G d)):ae (n+2) (164,0) [.obj 0,I t] (K G d)=sv (.bool false) (K G d):=aa [.v (aQ h hk),.z 8,.f (cD (zH (row:=rv (.inter [u,v])) (lp:=.unset) (hu n)) (cD (zH (t:=t) (lp:=.val (I u)) (hv n)) (dk (by kernel_rfl)))),.z 2]
noncomputable def yr:List Nat:=[0,1,2,3,4,5,13]
noncomputable def r_:List Nat:=[6,11,12,14,15]
def dG.cl (h:au G)(so:dG G d t O):kN G d t yr r_:=by
 have no:∀{k:Row},G[t]?=some k->rk k≠1->∀x∈yr,t≠x:=λhk hr x Y=>cV h hk hr x (by
  have:yr.all ([0,1,2,3,4,5,6,7,10,13].contains ·)=true:=by decide
  exact cE (aE this x Y))
 have obj:∀{u:Nat}{U:List Pr}{s c:Option (Nat×Nat)},G[u]?=some (.obj U s c)->∀n,ae (n+1) (164,0) [.obj 0,I u] (K G d)=sv (.bool false) (K G d):=λhk n=>o5 h hk (show 8≠6 by decide) (show 8≠7 by decide) (show 8≠12 by decide) (show 8<10 by decide)
 induction so with
 |obj H=>exact eU H λU a1 a2 oa=>⟨(af _ oa.row (by decide:8∉r_)),no oa.row (show 8≠1 by decide),λn=>obj oa.row (n+2)⟩
 |ref k b hk hb H=>exact ⟨(af _ hk (by decide:9∉r_)),no hk (show 9≠1 by decide),λn=>o5 h hk (show 9≠6 by decide) (show 9≠7 by decide) (show 9≠12 by decide) (show 9<10 by decide)⟩
 |inter u v A B i m=>exact eU i.l λU a1 a2 oa=>eU i.r λqs b1 b2 ob=>⟨(af _ i.row (by decide:7∉r_)),no i.row (show 7≠1 by decide),λn=>MH h i.row (obj oa.row) (obj ob.row)⟩
 |whole e ho=>subst e;have hk:G[10]?=some (.key "object"):=bg h.pre rfl;exact ⟨(af _ hk (by decide:1∉r_)),by decide,λn=>o5 h hk (show 1≠6 by decide) (show 1≠7 by decide) (show 1≠12 by decide) (show 1<10 by decide)⟩
noncomputable def Kb (u v:Nat)(lp lf:LV)(f:Nat)(σ:St):X:=⟨ez (94,0),[nv "tab" (.val (.obj 0)),nv "parts" (.val (.tup [I u,I v])),nv "found" (.val (I f)),(.ofString "part",lp),(.ofString "fam",lf)],σ⟩
def F2 {u v w f:Nat}{lp lf:LV}(hf:ae n (95,0) [.obj 0,I w] (K G d)=sv (I 7) (K G d))(H:f≠1):∃f',f'≠1/\∀Z,aZ n 11 (94,0) 0 (I w) (Kb u v lp lf f (K G d)) Z=Z .next (Kb u v (.val (I w)) (.val (I 7)) f' (K G d)):=by
 have e:=DA w 11;by_cases q:w=11
 ·rw [dT q] at e;exact af f H (aX [.r hf,.z 3,.b e])
 ·rw [dF q] at e;exact af 7 (by decide) (aX [.r hf,.z 3,.b e])
def dG.Kc (h:au G)(so:dG G d t O):∃f,f≠1/\ae (n+3) (95,0) [.obj 0,I t] (K G d)=sv (I f) (K G d):=by
 induction so with
 |obj H=>refine eU H λU a1 a2 oa=>?_;exact ⟨7,by decide,tH h oa.row⟩
 |ref k b hk hb H=>exact ⟨7,by decide,aa [.v (aQ h hk),.z 4]⟩
 |whole e ho=>subst e;exact af 7 (by decide) (aa [.v (aQ h (bg h.pre rfl:G[10]?=some (.key "object"))),.z 3])
 |inter u v A B i m=>exact bc λjo=>eU i.l λU a1 a2 oa=>eU i.r λqs b1 b2 ob=>aq (F2 (u:=u) (v:=v) (lp:=.unset) (lf:=.unset) (tH (n:=n) (d:=d) h oa.row) (show 0≠1 by decide)) λf1 n1 t1=>aq (F2 (u:=u) (v:=v) (lp:=.val (I u)) (lf:=.val (I 7)) (tH (n:=n) (d:=d) h ob.row) n1) λf2 n2 t2=>jo (af f2 n2 (aa [.v (aQ h i.row),.z 7,.r (by exact aa [.z 1,.f (cD t1 (cD t2 (dk (by kernel_rfl))))] (by kernel_rfl):ae (n+2) (94,0) [.obj 0,.tup [I u,I v]] (K G d)=sv (I f2) (K G d))]))
def PA (g:GP U)(Y:∀x',x'=x->x'∉c7):dz U x=none:=by
 generalize e:dz U x=z_;induction z_ with
 |none=>rfl
 |some p=>exact absurd ((GE.nm g _ (jd e)).1) (Y _ rfl)
def Bf {p:Pr}{m:Nat}(h:TT G)(room:G.length+1<=1000000)(v:Val Lv G p.t m):∃r N,ae (n+5) (147,0) [.obj 0,pv p] (K G d)=sv (I r) (K N d)/\Up G N 1/\Val Lv N r (wide (iz p) m):=by
 have op:=sV p;generalize o:iz p=z_;induction z_ with
 |true=>replace op:=o▸op;exact aw (oO (n:=n) (d:=d) h room v) λr N H M h3=>aD r N (aa [.z 1,.l (eA p.flags 1),.b op,.z 1,.r H]) M h3
 |false=>replace op:=o▸op;exact aD p.t G (aa [.z 1,.l (eA p.flags 1),.b op,.z 1]) ((Up.refl h).mono (lZ _)) v
def Ri {p:Pr}{a:Fi}(h:TT G)(room:G.length+1<=1000000)(f:b9 G p a):∃r N,ae (n+5) (147,0) [.obj 0,pv p] (K G d)=sv (I r) (K N d)/\Up G N 1/\Val Lv N r (wide a.opt a.m):=f.opt▸Bf h room f.v
end
section
variable{n t i:Nat} {G:List Row} {d:Sh} {x:Str} {O A B:Ob} {U:List Pr} {s c:Option (Nat×Nat)}
def iq {k:Row}{w r:List Nat}(hr:rk k∉r){b:Nat}(hb:b∈r):aN .Eq (I (rk k)) (.val (I b))=some false:=eS (dF λe=>hr (e▸hb))
def mh {w r:List Nat}(h:au G)(C:kN G d t w r)(DD:14∈r)(qj:15∈r):ae (n+1) (184,2) [.obj 9,I t] (K G d)=sv (I t) (K G d):=by exact aq C.row λk hk hr=>ip h hk (λe=>hr (e▸DD)) (λe=>hr (e▸qj))
def qJ {o:Option (Nat×Nat)}{m:Option Nat}(h:both (λc m=>Val Lv G c.1 m) o m):∃r:Int,d_ G r m/\(o=none/\m=none/\r=-1\/∃c:Nat×Nat,o=some c/\m.isSome=true/\r=c.1):=by
 induction m with
 |none=>induction o with
  |none=>exact af (-1) rfl (.inl (bx rfl rfl rfl))
  |some o=>exact h.elim
 |some m=>induction o with
  |none=>exact h.elim
  |some c=>exact af c.1 (af c.1 rfl h) (.inr (bX c rfl rfl rfl))
def KN (h:TT G)(room:G.length+9<=1000000)(so:dG G d t O)(Y:x∈dH):
  ∃r N,ae (n+15) (149,0) [.obj 9,I t,.str x] (K G d)=sv (.int r) (K N d)/\Up G N 9/\d_ N r (jZ O.s O.c (fE x)):=by
 refine bc λeY=>aq ((so.cl h.t).row) λk hk hr=>jI (tj (n:=n) h room so) λu N rs c1 c2 H M oa=>?_;have r0:=aQ h.t hk;have vU:aN .Eq (I (rk k)) (.val (I 11))=some false:=iq (w:=[]) hr (by decide);have oK:aN .Eq (I (rk k)) (.val (I 12))=some false:=iq (w:=[]) hr (by decide);have r1:=aQ M.t.t oa.row;have nn:=EG (n:=n+12) (σ:=K N d) Y;have n5:=qP c2;have n4:=Be c1;have s4:=vi rs c1 c2;have s5:=vj rs c1 c2;refine aq (qJ oa.hc) λrc vc hc=>aq (qJ oa.hs) λYL T hs=>eY ?_;have back:∀b:Bool,jZ O.s O.c b=(if b=true/\O.c.isSome=true then O.c else O.s):=λ_=>rfl;rw [back];generalize e:fE x=z_;induction z_ with
 |true=>
  rw [e] at nn;rcases hc with⟨rfl,ec,rfl⟩|⟨c,rfl,ec,rfl⟩
  ·rw [if_neg λh=>(by have:=h.2;replace this:=ec▸this;exact aS this)];rcases hs with⟨rfl,_,rfl⟩|⟨s,rfl,_,rfl⟩
   ·exact aD (-1) N (aa [.v r0,.v (cq k),.b vU,.v (cq k),.b oK,.r H,.v r1,.r nn,.v s5,.b n5,.v s4,.b n4,.z 1]) M T
   ·exact aD s.1 N (aa [.v r0,.v (cq k),.b vU,.v (cq k),.b oK,.r H,.v r1,.r nn,.v s5,.b n5,.v s4,.b n4,.v s4,.z 1]) M T
  ·rw [if_pos ⟨rfl,ec⟩];exact aD c.1 N (aa [.v r0,.v (cq k),.b vU,.v (cq k),.b oK,.r H,.v r1,.r nn,.v s5,.b n5,.v s5,.z 1]) M vc
 |false=>
  rw [e] at nn;rw [if_neg λh=>Bool.noConfusion h.1];rcases hs with⟨rfl,_,rfl⟩|⟨s,rfl,_,rfl⟩
  ·exact aD (-1) N (aa [.v r0,.v (cq k),.b vU,.v (cq k),.b oK,.r H,.v r1,.r nn,.v s4,.b n4,.z 1]) M T
  ·exact aD s.1 N (aa [.v r0,.v (cq k),.b vU,.v (cq k),.b oK,.r H,.v r1,.r nn,.v s4,.b n4,.v s4,.z 1]) M T
def LD (h:TT G)(room:G.length+9<=1000000)(so:dG G d t O)(Y:x∈dH):
  ∃o N,ae (n+15) (146,0) [.obj 9,I t,.str x] (K G d)=sv (vP o) (K N d)/\Up G N 9/\both (b9 N) o (O.f.lookup x):=by
 exact bc λVP=>aq ((so.cl h.t).row) λk hk hr=>jI (tj (n:=n) h room so) λu N rs c1 c2 H M oa=>VP (aD (dz rs x) N (aa [.r (mh (n:=n+13) h.t (so.cl h.t) (by decide) (by decide)),.v (aQ h.t hk),.v (cq k),.b (iq (w:=[]) hr (by decide):aN .Eq (I (rk k)) (.val (I 11))=some false),.v (cq k),.b (iq (w:=[]) hr (by decide):aN .Eq (I (rk k)) (.val (I 12))=some false),.r H,.v (aQ M.t.t oa.row),.r (Rg (n:=n+13) (s:=c1) (c:=c2) (σ:=K N d) oa.gp (rt Y))]) M (oa.fs x))
def Cc (o:Option Pr):aN .IsNot (vP o) (.val .none)=some o.isSome:=by cases o<;>rfl
def Ah (Y:x∈dH):ig x=fE x:=by
 have:(x==Str.ofString "#")=false:=by revert x;apply fG;kernel_rfl
 delta ig;rw [this,Bool.or_false]
def K7 (h:TT G)(room:G.length+18<=1000000)(so:dG G d t O)(Y:x∈dH):
  ∃r N,ae (n+16) (151,0) [.obj 9,I t,.str x] (K G d)=sv (.int r) (K N d)/\Up G N 18/\d_ N r (O.at x):=by
 have C:=so.cl h.t;refine bc λVQ=>aq C.row λk hk hr=>?_;have hf:=mh (n:=n+14) h.t C (by decide) (by decide);have e0:=neN (C.wh 0 (by decide));have sH:=neN (C.wh 13 (by decide));have ek:ae (n+15) (66,0) [.obj 0,I t] (K G d)=sv (I (rk k)) (K G d):=aa [.v (aQ h.t hk),.v (cq k)];refine aw (LD (n:=n) h (nT (nA (nl rfl) _) room) so Y) λo aj H M ho=>VQ ?_;have is:=Cc o;delta Ob.at;generalize e:O.f.lookup x=z_;induction z_ with
 |some a=>
  rw [e] at ho
  induction o with
  |none=>exact ho.elim
  |some p=>exact aw (Ri (n:=n+10) (d:=d) M.t (M.cJ room (by decide)) ho) λr aB h3 h4 h5=>⟨r,aB,aa [.r hf,.b e0,.b sH,.r ek,.b (iq (w:=[]) hr (by decide):aN .Eq (I (rk k)) (.val (I 6))=some false),.r H,.b is,.r h3],(M.trans h4).mono (by decide),r,rfl,h5⟩
 |none=>
  replace ho:=e▸ho
  induction o with
  |some p=>exact ho.elim
  |none=>exact aw (KN (n:=n) M.t (M.room room) (so.up M.pre) Y) λr aB h3 h4 h5=>(Ah Y).symm▸(aD r aB (aa [.r hf,.b e0,.b sH,.r ek,.b (iq (w:=[]) hr (by decide):aN .Eq (I (rk k)) (.val (I 6))=some false),.r H,.b is,.r h3]) (M.trans h4) h5)
def Ef (h:TT G)(room:G.length+9<=1000000)(so:dG G d t O)(b:Bool):
  ∃o N,ae (n+15) (152,0) [.obj 9,I t,I (cond b 1 0)] (K G d)=sv (cv o) (K N d)/\Up G N 9/\both (λc m=>Val Lv N c.1 m) o (cond b O.c O.s):=by
 refine bc λVS=>aq ((so.cl h.t).row) λk hk hr=>jI (tj (n:=n) h room so) λu N rs c1 c2 H M oa=>VS ?_;have hf:=mh (n:=n+13) h.t (so.cl h.t) (by decide) (by decide)
 induction b with
 |true=>exact aD c2 N (aa [.r hf,.v (aQ h.t hk),.v (cq k),.b (iq (w:=[]) hr (by decide):aN .Eq (I (rk k)) (.val (I 11))=some false),.v (cq k),.b (iq (w:=[]) hr (by decide):aN .Eq (I (rk k)) (.val (I 12))=some false),.r H,.v (aQ M.t.t oa.row),.z 1,.v (vj rs c1 c2)]) M oa.hc
 |false=>exact aD c1 N (aa [.r hf,.v (aQ h.t hk),.v (cq k),.b (iq (w:=[]) hr (by decide):aN .Eq (I (rk k)) (.val (I 11))=some false),.v (cq k),.b (iq (w:=[]) hr (by decide):aN .Eq (I (rk k)) (.val (I 12))=some false),.r H,.v (aQ M.t.t oa.row),.z 1,.v (vi rs c1 c2)]) M oa.hs
def dG.nm (h:TT G)(room:G.length+9<=1000000)(so:dG G d t O)(Y:x∉c7):O.f.lookup x=none:=by
 refine jI (tj (n:=0) h room so) λu N rs c1 c2 H M oa=>?_;have:=oa.fs x;rw [PA oa.gp λx' e=>e▸Y] at this;generalize e:O.f.lookup x=z_;induction z_ with
 |none=>rfl
 |some a=>rw [e] at this;exact this.elim
def Rj (h:TT G)(room:G.length+18<=1000000)(so:dG G d t O)(b:Bool):
  ∃r N,ae (n+16) (179,0) [.obj 9,I t,I (cond b 7 6)] (K G d)=sv (.int r) (K N d)/\Up G N 18/\d_ N r (jZ O.s O.c b):=by
 refine aq (so.Kc (n:=n+12) h.t) λf f1 ff=>?_;have tail:∀{aj:List Row}{c0:Nat},Up G aj c0->c0<=9->∃o N r,ae (n+15) (152,0) [.obj 9,I t,I 0] (K aj d)=sv (cv o) (K N d)/\Up G N 18/\d_ N r O.s/\(o=none/\r=-1\/∃c:Nat×Nat,o=some c/\r=c.1):=λu hc=>by exact bc λVT=>aw (Ef (n:=n) u.t (u.cJ room (Nat.add_le_add_right hc 9)) (so.up u.pre) false) λo N H M h3=>aq (qJ h3) λr vr hr=>VT (fB o N r H ((u.trans M).mono (Nat.add_le_add_right hc 9)) vr (hr.imp (λh=>⟨h.1,h.2.2⟩) λVU=>aM VU λc h=>(af c h.1 h.2.2)))
 induction b with
 |true=>
  refine bc λVV=>aw (Ef (n:=n) h (nT (nA (by decide) _) room) so true) λo aj H M h3=>?_;have no:=qP o;refine aq (qJ h3) λrc vc hc=>VV ?_;rcases hc with⟨rfl,ec,rfl⟩|⟨c,rfl,ec,rfl⟩
  ·refine eP (tail M (nR _)) λo2 N r g1 g2 g3 g4=>?_;have vV:=qP o2;refine aD r N ?_ g2 (by delta jZ;rw [if_neg λh=>(by have:=h.2;have ec:O.c=none:=ec;replace this:=ec▸this;exact aS this)];exact g3);rcases g4 with⟨rfl,rfl⟩|⟨c,rfl,rfl⟩
   ·exact aa [.z 1,.r ff,.b (neN f1),.z 1,.r H,.b no,.r g1,.b vV,.z 1]
   ·exact aa [.z 1,.r ff,.b (neN f1),.z 1,.r H,.b no,.r g1,.b vV,.z 1]
  ·exact aD c.1 aj (aa [.z 1,.r ff,.b (neN f1),.z 1,.r H,.b no,.z 1]) (M.mono (by decide)) (by delta jZ;rw [if_pos ⟨rfl,ec⟩];exact vc)
 |false=>
  refine eP (tail (Up.refl h) (lZ _)) λo2 N r g1 g2 g3 g4=>?_;have vV:=qP o2;refine aD r N ?_ g2 (by delta jZ;rw [if_neg λh=>Bool.noConfusion h.1];exact g3);rcases g4 with⟨rfl,rfl⟩|⟨c,rfl,rfl⟩
  ·exact aa [.z 3,.r g1,.b vV,.z 1]
  ·exact aa [.z 3,.r g1,.b vV,.z 1]
end
section
variable{n t i:Nat} {G N:List Row} {d:Sh} {x:Str} {O A B:Ob} {U:List Pr} {s c:Option (Nat×Nat)} {w r:List Nat}
def N1 (Y:x∈dH):oo x=.str x:=if_pos Y
def N2 (h:TT G)(room:G.length+18<=1000000)(so:dG G d t O)(k:e9 G i x):
  ∃r N,ae (n+17) (180,0) [.obj 9,I t,I i] (K G d)=sv (.int r) (K N d)/\Up G N 18/\d_ N r (O.at x):=by
 refine aq ((so.cl h.t).row) λkr hk hr=>?_;have ek:ae (n+16) (66,0) [.obj 0,I t] (K G d)=sv (I (rk kr)) (K G d):=aa [.v (aQ h.t hk),.v (cq kr)];have ei:=ma t [5,4,3,1] λe=>(so.cl h.t).wh t (by
  have:[5,4,3,1].all (yr.contains ·)=true:=by decide
  exact cE (aE this t e)) rfl
 have oK:aN .Eq (I (rk kr)) (.val (I 12))=some false:=iq (w:=[]) hr (by decide);have kt:=zm (n:=n+14) (d:=d) h.t k;have txt:x∈dH->∃r N,ae (n+17) (180,0) [.obj 9,I t,I i] (K G d)=sv (.int r) (K N d)/\Up G N 18/\d_ N r (O.at x):=λY=>by refine bc λCF=>bc λjq=>?_;obtain ⟨f,f1,ff⟩:=so.Kc (n:=n+13) h.t;have nf:=neN f1;refine aw (K7 (n:=n) h room so Y) λr N H M h3=>jq (CF ?_);rw [N1 Y] at kt;exact aD r N (aa [.r ek,.b ei,.b (iq (w:=[]) hr (by decide):aN .Eq (I (rk kr)) (.val (I 11))=some false),.b oK,.r kt,.z 1,.r ff,.b nf,.z 1,.r H]) M h3
 have Kd:∀{b:Bool},i=cond b 7 6->x∉c7->ig x=b->oo x=.none->∃r N,ae (n+17) (180,0) [.obj 9,I t,I i] (K G d)=sv (.int r) (K N d)/\Up G N 18/\d_ N r (O.at x):=λ{b} hi Y hd hv=>by
  refine aw (Rj (n:=n) h room so b) λr N H M h3=>?_;replace kt:=hv▸kt;have e:O.at x=jZ O.s O.c b:=by delta Ob.at;exact (so.nm h (nT (nA (nl rfl) _) room:G.length+9<=1000000) Y).symm▸hd.symm▸rfl
  rw [<-hi] at H;exact aD r N (aa [.r ek,.b ei,.b (iq (w:=[]) hr (by decide):aN .Eq (I (rk kr)) (.val (I 11))=some false),.b oK,.r kt,.z 2,.r H]) M (e▸h3)
 induction k with
 |str f hk Y=>exact txt Y
 |num m f hk hm e Y=>exact txt Y
 |string H e=>subst e;exact Kd (b:=false) H (by decide) (by decide) (if_neg (by decide))
 |number H e=>subst e;exact Kd (b:=true) H (by decide) (by decide) (if_neg (by decide))
def K8 {y:Int}{i0:Nat}{aj:List Row}(h:au G)(H:au aj)(C:kN G d t w r)(C1:kN aj d t w r)(w0:0∈w)(w2:2∈w)(YM:13∈w)(r6:6∈r)(YN:14∈r)(YO:15∈r)(k:e9 aj i x)
  (f2:ae (n+17) (184,2) [.obj 9,I i0] (K G d)=sv (I i) (K aj d))
  (hc:ae (n+17) (180,0) [.obj 9,I t,I i] (K aj d)=sv (.int y) (K N d)):ae (n+18) (181,0) [.obj 9,I t,I i0] (K G d)=sv (.int y) (K N d):=by
 exact bc λpV=>aq C1.row λkr hk hr=>xX (k.row H) λki hi i6 i7 i12 oL i2 vW=>pV (aa [.r (mh (n:=n+16) h C YN YO),.r f2,.b (neN (C.wh 13 YM)),.b (neN vW),.b (neN (C.wh 0 w0)),.b (neN (C.wh 2 w2)),.b (neN i2),.r (C1.op (n+14)),.r (o5 (n:=n+16) (d:=d) H hi i6 i7 i12 oL),.r (by exact aa [.v (aQ H hi),.v (cq ki)] (by kernel_rfl):ae (n+17) (66,0) [.obj 0,I i] (K aj d)=sv (I (rk ki)) (K aj d)),.b (eS (dF i6)),.r (by exact aa [.v (aQ H hk),.v (cq kr)] (by kernel_rfl):ae (n+17) (66,0) [.obj 0,I t] (K aj d)=sv (I (rk kr)) (K aj d)),.b (iq (w:=[]) hr r6:aN .Eq (I (rk kr)) (.val (I 6))=some false),.r hc])
end
noncomputable def eO (x:Str):Nat:=if x=.ofString "p" then 1 else if x=.ofString "q" then 2 else 4
noncomputable def fF (o:Option Fi)(x:Str):Nat:=o.elim 0 λa=>cond a.cP 0 (eO x)
noncomputable def ib (F:Str->Option Fi):Nat:=bC (c7.map λx=>fF (F x) x)
noncomputable def eB (O:Ob):Nat:=bC [ib (O.f.lookup ·),cond O.s.isSome 255 0,cond O.c.isSome 128 0]
def zI {l l':List Nat}(h:∀m∈l,m≠0->m∈l')(h':∀m∈l',m≠0->m∈l):bC l=bC l':=by
 have key:∀{l l':List Nat},(∀m∈l,m≠0->m∈l')->∀b,(bC l).testBit b=true->(bC l').testBit b=true:=λh b hb=>by refine aq (qD.mp hb) λm hm q=>?_;exact qD.mpr (af m (h m hm (λe=>by rw [e,Nat.zero_testBit] at q;exact nomatch q)) q)
 exact Nat.eq_of_testBit_eq λb=>Bool.eq_iff_iff.mpr ⟨key h b,key h' b⟩
def Ff:∀l l':List Nat,bC (l++l')=bC l|||bC l':=by
 intro z_
 induction z_ with
 |nil=>intro l';exact (Nat.zero_or _).symm
 |cons a l ak=>intro l';show a|||bC (l++l')=a|||bC l|||bC l';rw [ak,Nat.or_assoc]
section
variable{n t i:Nat} {G N:List Row} {d:Sh} {x:Str} {O A B:Ob} {U:List Pr} {s c:Option (Nat×Nat)}
def AB (h:TT G)(room:G.length<1000000)(Y:cO x)(f:Nat):∃i N,ae (n+1) (64,3) [.obj 0,rv (.str x f)] (K G d)=sv (I i) (K N d)/\Up G N 1/\N[i]?=some (.str x f):=fN h Y room λU e=>nomatch e
def Rk (h:au G)(Y:x∈c7)(hk:G[i]?=some (.str x 0)):Val Ln G i (eO x):=by
 simp only [c7,List.mem_cons,List.not_mem_nil,or_false] at Y;rcases Y with rfl|rfl|rfl
 ·exact (iu Gn (j:=2) h rfl hk).2
 ·exact (iu Gn (j:=0) h rfl hk).2
 ·exact (iu Gn (j:=1) h rfl hk).2
def jP (G:List Row)(l:List (Nat×Nat)):Prop:=∀x∈l,Val Ln G x.1 x.2
def jP.up {l:List (Nat×Nat)}(p:G<+:N)(h:jP G l):jP N l:=λx Y=>(h x Y).up p
def jP.add {l:List (Nat×Nat)}{t m:Nat}(h:jP G l)(v:Val Ln G t m):jP G (l++[(t,m)]):=λx Y=>(pE Y).elim (h x) λe=>sE e▸v
noncomputable def kv (l:List (Nat×Nat)):List V:=l.map λx=>I x.1
def Bg (l:List (Nat×Nat))(t m:Nat):kv l++[I t]=kv (l++[(t,m)]):=by delta kv;rw [List.map_append];rfl
def DE (h:au G):Val Ln G 6 127/\Val Ln G 7 128:=⟨(iu Gn (j:=6) h rfl (bg h.pre rfl)).2,(iu Gn (j:=7) h rfl (bg h.pre rfl)).2⟩
def wu (h:TT G)(room:G.length<1000000){l:List (Nat×Nat)}(hl:jP G l){pv:V}(hi:bA pv=some (kv l)):∃t N,ae (n+3) (86,0) [.obj 0,pv] (K G d)=sv (I t) (K N d)/\Up G N 1/\Val Ln N t (bC (l.map (·.2))):=Ax Gn h room (by refine hi.symm▸?_;refine List.map_map.symm▸?_;rfl) hl
def nU {xs:List V}{v:V}(h:xs.length<=1000):grown eL xs v=some (xs++[v]):=by show cond (eL==eL) (guard (aY xs.length) _) _=_;rw [beq_self_eq_true,dy ((nT ‹_› (nl rfl)))];rfl
def Eg (h:TT G)(room:G.length<1000000)(Y:cO x):∃i N,ae (n+2) (67,0) [.obj 0,.str x] (K G d)=sv (I i) (K N d)/\Up G N 1/\N[i]?=some (.str x 0):=by exact aw (AB (n:=n) (d:=d) h room Y 0) λi N H M h3=>aD i N (aa [.r H]) M h3
noncomputable def ou (p:Pr):Bool:=decide (p.flags&&&24=0)
def N3 {p:Pr}:ae (n+1) (170,0) [pv p] (K G d)=sv (.bool (ou p)) (K G d):=aa [.z 2,.l (eA p.flags 24),.b (dx (p.flags&&&24) 0)]
def b9.yV {p:Pr}{a:Fi}(h:b9 G p a):ou p=!a.cP:=by have:=h.f;unfold rq at this;delta ou;simp only [List.mem_cons,List.not_mem_nil,or_false,Prod.mk.injEq,decide_eq_true_eq] at this;refine this.elim (λh=>?_) (λkn=>kn.elim (λh=>?_) (λpT=>pT.elim (λh=>?_) (λu9=>u9.elim (λh=>?_) (λh=>?_))))<;>refine h.1.symm▸h.2.2.2.symm▸?_<;>rfl
noncomputable def yW (t:Nat)(row:V)(l:List (Nat×Nat))(lp:LV)(σ:St):X:=⟨ez (171,0),[nv "host" (.val (.obj 9)),nv "t" (.val (I t)),nv "tab" (.val (.obj 0)),nv "shape" (.val row),nv "keys" (.ml (kv l)),(.ofString "prop",lp)],σ⟩
def N4 {row:V}:∀{U:List Pr}{l:List (Nat×Nat)}{G:List Row}{lp:LV},TT G->G.length+U.length<=1000000->l.length+U.length<=100->jP G l->(∀p∈U,p.name∈c7)->
  ∃l' bG N,(∀Z,cF (n+3) 11 (171,0) 0 (U.map pv) (yW t row l lp (K G d)) Z=Z .next (yW t row l' bG (K N d)))/\Up G N U.length/\jP N l'/\l'.length<=l.length+U.length/\bC (l'.map (·.2))=bC (l.map (·.2))|||bC (U.map λp=>cond (ou p) (eO p.name) 0):=by
 intro z_
 induction z_ with
 |nil=>intro l G lp h _ _ hl _;exact mK l lp G (dk (by kernel_rfl)) (Up.refl h) hl (nR _) ((Nat.or_zero _).symm)
 |cons p U ak=>
  intro l G lp h room lim hl hp;have pb:=N3 (n:=n+2) (G:=G) (d:=d) (p:=p);have room:G.length+(1+U.length)<=1000000:=by rw [Nat.add_comm 1];exact room
  have step:∃l1 aj,(∀Z,aZ (n+3) 11 (171,0) 0 (pv p) (yW t row l lp (K G d)) Z=Z .next (yW t row l1 (.val (pv p)) (K aj d)))/\Up G aj 1/\jP aj l1/\l1.length<=l.length+1/\bC (l1.map (·.2))=bC (l.map (·.2))|||cond (ou p) (eO p.name) 0:=by
   generalize e:ou p=z_;induction z_ with
   |false=>replace pb:=e▸pb;exact Cg l G (aX [.r pb]) ((Up.refl h).mono (lZ _)) hl (lS _) ((Nat.or_zero _).symm)
   |true=>replace pb:=e▸pb;refine aw (Eg (n:=n+1) (d:=d) h (nT (nA (lA 1 _) _) room) (eM (hp p mS))) λi aj H M h3=>?_;have g:=nU (v:=I i) (by delta kv;rw [lM];exact nT (nT (lA _ _) lim) (nl rfl):(kv l).length<=1000);rw [Bg l i (eO p.name)] at g;refine Cg (l++[(i,eO p.name)]) aj (aX [.r pb,.z 1,.r H,.s g]) M ((hl.up M.pre).add (Rk M.t.t (hp p mS) h3)) (by rw [List.length_append];exact nR _) ?_;rw [List.map_append,Ff];show _|||(eO p.name|||0)=_;rw [Nat.or_zero];rfl
  refine bc λC6=>II step λl1 aj ht u k1 Jt o1=>?_;obtain ⟨l',bG,N,a1,a2,a3,a4,a5⟩:=ak (lp:=.val (pv p)) u.t (u.room room) (nT (Nat.add_le_add_right Jt _) (by rw [Nat.add_assoc,Nat.add_comm 1];exact lim)) k1 λq hq=>hp q (aT _ hq);refine C6 ?_;refine mK l' bG N (cD ht a1) ((u.trans a2).mono (by rw [Nat.add_comm];exact nR _)) a3 (nT a4 (by rw [List.length_cons,Nat.add_comm U.length,<-Nat.add_assoc];exact Nat.add_le_add_right Jt _)) ?_;rw [a5,o1,Nat.or_assoc];rfl
def SD {O:Ob}(r:l_ G O U s c):bC (U.map λp=>cond (ou p) (eO p.name) 0)=ib (O.f.lookup ·):=by
 refine zI (λm hm h0=>?_) λm hm h0=>?_
 ·(refine bT hm λp hp eY=>?_;subst eY);have hl:dz U p.name=some p:=nJ r.gp.nd (mM hp);have:=r.fs p.name;replace this:=hl▸this;refine kE (af p.name (r.gp.nm hp) ?_);generalize e:O.f.lookup p.name=z_;induction z_ with
  |none=>replace this:=e▸this;exact this.elim
  |some a=>
   rw [e] at this;show fF (O.f.lookup p.name) p.name=_;refine this.yV.symm▸e.symm▸?_;show cond a.cP 0 (eO p.name)=_
   cases a.cP<;>rfl
 ·(refine bT hm λx Y jt=>?_;subst jt);have:=r.fs x;generalize e:O.f.lookup x=z_;induction z_ with
  |none=>exact absurd (by show fF (O.f.lookup x) x=0;refine e.symm▸?_;rfl) h0
  |some a=>
   rw [e] at this;generalize e2:dz U x=z_;induction z_ with
   |none=>replace this:=e2▸this;exact this.elim
   |some p=>
    replace this:=e2▸this;refine bT (jd e2) λq hq e3=>?_
    cases e3
    refine kE (af p hq ?_);show cond (ou p) (eO p.name) 0=fF (O.f.lookup p.name) p.name;refine this.yV.symm▸e.symm▸?_;show _=cond a.cP 0 (eO p.name)
    cases a.cP<;>rfl
def KO (h:TT G)(room:G.length+12<=1000000)(so:dG G d t O):
  ∃l N,ae (n+15) (171,0) [.obj 9,I t] (K G d)=some (.ml (kv l),K N d)/\Up G N 12/\jP N l/\bC (l.map (·.2))=eB O:=by
 refine bc λBQ=>jI (tj (n:=n) h (nT (nA (nl rfl) _) room) so) λu aj rs c1 c2 H M oa=>?_;have l3:=oa.gp.len;refine mI (N4 (n:=n+11) (d:=d) (t:=t) (row:=rv (.obj rs c1 c2)) (l:=[]) (lp:=.unset) M.t (nT (nA l3 _) (M.room room)) (nT (Nat.le_of_eq (Nat.zero_add _)) (nT l3 (nl rfl))) (λx Y=>cj Y) λp hp=>oa.gp.nm hp) λl lp aB hl u2 kl ll ho=>?_;have ho:bC (l.map (·.2))=ib (O.f.lookup ·):=by rw [ho,SD oa.r];exact Nat.zero_or _
 have ll:l.length<=3:=nT ll (nT (Nat.le_of_eq (Nat.zero_add _)) l3);have r1:=aQ M.t.t oa.row;have s4:=vi rs c1 c2;have s5:=vj rs c1 c2;have n4:=qP c1;have n5:=qP c2;have u:=M.trans (u2.mono l3);refine ay (DE u2.t.t) λv6 v7=>?_;have gl:∀{l:List (Nat×Nat)},l.length<=6->∀a m,grown eL (kv l) (I a)=some (kv (l++[(a,m)])):=λ{l} h a m=>by rw [nU (by delta kv;rw [lM];exact nT h (nl rfl)),Bg l a m]
 have add:∀l (a m:Nat),(l++[(a,m)]).length=l.length+1/\bC ((l++[(a,m)]).map (·.2))=bC (l.map (·.2))|||m:=λl a m=>⟨List.length_append,by rw [List.map_append,Ff];exact congrArg _ (Nat.or_zero m)⟩;have a6:=add l 6 127;have DF:=add (l++[(6,127)]) 7 128;refine aq (qJ oa.hc) λrc _ hc=>aq (qJ oa.hs) λYL _ hs=>BQ ?_;rcases hs with⟨rfl,S,_⟩|⟨s,rfl,S,_⟩
 ·rcases hc with⟨rfl,ec,_⟩|⟨c,rfl,ec,_⟩
  ·refine d6 l aB (aa [.r H,.v r1,.z 4,.f hl,.v s4,.b n4,.v s5,.b n5]) u kl ?_;delta eB;refine ho.symm▸S.symm▸ec.symm▸?_;exact (Nat.or_zero _).symm
  ·refine d6 _ aB (aa [.r H,.v r1,.z 4,.f hl,.v s4,.b n4,.v s5,.b n5,.s (gl (l:=l) (nT ll (nl rfl)) 7 128)]) u (kl.add v7) ?_;delta eB;rw [(add l 7 128).2,ho,S,ec];rfl
 ·rcases hc with⟨rfl,ec,_⟩|⟨c,rfl,ec,_⟩
  ·refine d6 _ aB (aa [.r H,.v r1,.z 4,.f hl,.v s4,.b n4,.s (gl (l:=l) (nT ll (nl rfl)) 6 127),.s (gl (l:=l++[(6,127)]) (nT (Nat.le_of_eq a6.1) (nT (Nat.succ_le_succ ll) (nl rfl))) 7 128),.v s5,.b n5]) u ((kl.add v6).add v7) ?_;delta eB;rw [DF.2,a6.2,ho,S,ec,(λa=>Nat.or_assoc ..:∀a:Nat,a|||127|||128=a|||255)];rfl
  ·refine d6 _ aB (aa [.r H,.v r1,.z 4,.f hl,.v s4,.b n4,.s (gl (l:=l) (nT ll (nl rfl)) 6 127),.s (gl (l:=l++[(6,127)]) (nT (Nat.le_of_eq a6.1) (nT (Nat.succ_le_succ ll) (nl rfl))) 7 128),.v s5,.b n5,.s (gl (l:=l++[(6,127)]++[(7,128)]) (nT (Nat.le_of_eq DF.1) (nT (Nat.succ_le_succ (nT (Nat.le_of_eq a6.1) (Nat.succ_le_succ ll))) (nl rfl))) 7 128)]) u (((kl.add v6).add v7).add v7) ?_;delta eB;rw [(add (l++[(6,127)]++[(7,128)]) 7 128).2,DF.2,a6.2,ho,S,ec,(λa=>Nat.or_assoc ..:∀a:Nat,a|||127|||128=a|||255),Nat.or_assoc];rfl
end
section
variable{n t i:Nat} {G N:List Row} {d:Sh} {x:Str} {O A B:Ob} {U:List Pr} {s c:Option (Nat×Nat)}
def DG (a b c e:Nat):(a|||b)|||(c|||e)=(a|||c)|||(b|||e):=by rw [Nat.or_assoc,<-Nat.or_assoc b,Nat.or_comm b c,Nat.or_assoc c,<-Nat.or_assoc]
def N5 {α:Type}{f g h:α->Nat}(e:∀x,f x=g x|||h x):∀l:List α,bC (l.map f)=bC (l.map g)|||bC (l.map h):=by
 intro bz
 induction bz with
 |nil=>exact (Nat.or_self 0).symm
 |cons aJ aU ak=>show f aJ|||bC (aU.map f)=(g aJ|||bC (aU.map g))|||(h aJ|||bC (aU.map h));rw [ak,e,DG]
def PB (m:rr A B O)(pa:A.plain)(pb:B.plain):eB O=eB A|||eB B:=by
 have e1:ib (O.f.lookup ·)=ib (A.f.lookup ·)|||ib (B.f.lookup ·):=N5 (λx=>by
  show fF (O.f.lookup x) x=fF (A.f.lookup x) x|||fF (B.f.lookup x) x;rw [m.f];generalize ea:A.f.lookup x=z_;induction z_ with
  |none=>exact (Nat.zero_or _).symm
  |some a=>generalize eb:B.f.lookup x=z_;induction z_ with
   |none=>exact (Nat.or_zero _).symm
   |some b=>show eO x=cond a.cP 0 (eO x)|||cond b.cP 0 (eO x);refine ((pa _ _ ea).2).symm▸((pb _ _ eb).2).symm▸?_;exact (Nat.or_self _).symm) c7
 have e2:∀k (a b),cond (gz a b).isSome k 0=cond a.isSome k 0|||cond b.isSome k 0:=λk a b=>by
  cases a<;>cases b
  ·exact (Nat.or_self 0).symm
  ·exact (Nat.zero_or _).symm
  ·exact (Nat.or_zero _).symm
  ·exact (Nat.or_self _).symm
 delta eB;rw [e1,m.s,m.c,e2,e2];show(_|||_)|||((_|||_)|||((_|||_)|||0))=(_|||(_|||(_|||0)))|||(_|||(_|||(_|||0)));rw [Nat.or_zero,Nat.or_zero,Nat.or_zero,DG (cond A.s.isSome 255 0),DG (ib (A.f.lookup ·))]
def zJ (h:TT G)(room:G.length+13<=1000000)(so:dG G d t O)(vX:t≠10)(h7:∀k,G[t]?=some k->rk k≠7):
  ∃r N,ae (n+16) (175,0) [.obj 9,I t] (K G d)=sv (I r) (K N d)/\Up G N 13/\Val Ln N r (eB O):=by
 have C:=so.cl h.t;refine bc λcx=>aq C.row λk hk hr=>hZ (KO (n:=n) h (Nat.le_of_succ_le room) so) λl aj H M h3 h4=>aw (wu (n:=n+12) (d:=d) (pv:=.list (kv l)) M.t (M.room (m:=1) room) h3 rfl) λr aB h5 h6 YP=>cx ?_;have ei:=ma t [1,3,4,5,10] λe=>by simp only [List.mem_cons,List.not_mem_nil,or_false] at e;exact e.elim (λe=>(C.wh 1 (by decide) e)) (λdK=>dK.elim (λe=>(C.wh 3 (by decide) e)) (λdn=>dn.elim (λe=>(C.wh 4 (by decide) e)) (λgP=>gP.elim (λe=>(C.wh 5 (by decide) e)) (λe=>(vX e)))))
 have e:∀{b:Nat},b∈r_->aN .Eq (I (rk k)) (.val (I b))=some false:=λhb=>iq (w:=[]) hr hb;exact aD r aB (aa [.r (mh (n:=n+14) h.t C (by decide) (by decide)),.b (neN (C.wh 0 (by decide))),.b (neN (C.wh 13 (by decide))),.b (neN (C.wh 2 (by decide))),.b ei,.r (aa [.v (aQ h.t hk),.v (cq k)] (by kernel_rfl):ae (n+15) (66,0) [.obj 0,I t] (K G d)=sv (I (rk k)) (K G d)),.b (e (b:=6) (by decide)),.b (eS (dF (h7 k hk))),.r (C.op (n+12)),.b (e (b:=11) (by decide)),.b (e (b:=12) (by decide)),.r H,.r h5]) (M.trans h6) (h4▸YP)
noncomputable def YQ (parts:V)(both:Bool)(keys:LV)(σ:St):X:=⟨ez (173,0),[nv "host" (.val (.obj 9)),nv "parts" (.val parts),nv "both" (.val (.bool both)),nv "tab" (.val (.obj 0)),(.ofString "keys",keys)],σ⟩
def xg {parts:V}{both:Bool}{r:Nat}{vars:bL}(hk:ae n (175,0) [.obj 9,I t] (K G d)=sv (I r) (K N d))(hv:vars=(YQ parts both .unset (K G d)).vars):∀Z,fz n 39 (173,0) 0 vars (I t) (K G d) Z=Z (some (I r)) (K N d):=by subst hv;exact ew [.r hk]
def Rn (h:TT G)(room:G.length+27<=1000000)(so:dG G d t O):
  ∃r N,ae (n+18) (175,0) [.obj 9,I t] (K G d)=sv (I r) (K N d)/\Up G N 27/\Val Ln N r (eB O):=by
 have flat:t≠10->(∀k,G[t]?=some k->rk k≠7)->∃r N,ae (n+18) (175,0) [.obj 9,I t] (K G d)=sv (I r) (K N d)/\Up G N 27/\Val Ln N r (eB O):=λa b=>by exact aw (zJ (n:=n+2) h (nT (nA (by decide) _) room) so a b) λr N H M h3=>aD r N H (M.mono (by decide)) h3
 have C:=so.cl h.t
 induction so with
 |obj H=>refine eU H λU a1 a2 oa=>?_;exact flat (cV h.t oa.row (show 8≠1 by decide) 10 (by decide)) λk e=>by replace e:=oa.row▸e;obtain rfl:=oj e;exact (show 8≠7 by decide)
 |ref k b hk hb H=>exact flat (cV h.t hk (show 9≠1 by decide) 10 (by decide)) λk e=>by replace e:=hk▸e;obtain rfl:=oj e;exact (show 9≠7 by decide)
 |whole e ho=>
  subst e;refine aD 2 G (aa [.r (mh (n:=n+16) h.t C (by decide) (by decide)),.z 4]) ((Up.refl h).mono (lZ _)) ?_;have:eB O=0:=by delta eB ib;refine ho.1.symm▸ho.2.1.symm▸ho.2.2.symm▸?_;rfl
  refine this.symm▸?_;exact kV h.t
 |inter u v A B im m=>
  refine bc λpM=>eU im.l λU a1 a2 oa=>eU im.r λqs b1 b2 ob=>?_;have ne:=λ{u:Nat}{U:List Pr}{s c:Option (Nat×Nat)}{G:List Row} h (hk:G[u]?=some (.obj U s c))=>cV h hk (show 8≠1 by decide) 10 (by decide);obtain ⟨r1,aj,H,u1,v1⟩:=zJ (d:=d) h (nT (nA (by decide) _) room) (.obj (iP _ _ _ oa)) (ne h.t oa.row) λk e=>by replace e:=oa.row▸e;obtain rfl:=oj e;exact (show 8≠7 by decide)
  have ob:=ob.up u1.pre;obtain ⟨r2,aB,M,u2,v2⟩:=zJ (n:=n) u1.t (u1.cJ room (nl rfl)) (.obj (iP _ _ _ ob)) (ne u1.t.t ob.row) λk e=>by replace e:=ob.row▸e;obtain rfl:=oj e;exact (show 8≠7 by decide)
  have cU:=u1.trans u2;refine aw (wu (n:=n+13) (d:=d) (pv:=.list [I r1,I r2]) (l:=[(r1,eB A),(r2,eB B)]) cU.t (cU.room (m:=1) room) (λx Y=>by
   rcases mE Y with rfl|Y
   ·exact v1.up u2.pre
   ·obtain rfl:=sE Y;exact v2) rfl) λr cC h3 u3 v3=>?_
  refine pM ?_;have ei:=ma t [1,3,4,5,10] λe=>cV h.t im.row (show 7≠1 by decide) t (by
   have:[1,3,4,5,10].all ([0,1,2,3,4,5,6,7,10,13].contains ·)=true:=by decide
   exact cE (aE this t e)) rfl
  refine aD r cC (aa [.r (mh (n:=n+16) h.t C (by decide) (by decide)),.b (neN (C.wh 0 (by decide))),.b (neN (C.wh 13 (by decide))),.b (neN (C.wh 2 (by decide))),.b ei,.r (aa [.v (aQ h.t im.row),.z 1] (by kernel_rfl):ae (n+17) (66,0) [.obj 0,I t] (K G d)=sv (I 7) (K G d)),.z 2,.v (aQ h.t im.row),.z 1,.r (aa [.z 2,.c (fY (xg (both:=false) H rfl) (fY (xg (parts:=.tup [I u,I v]) M rfl) (jc (by kernel_rfl)))),.r h3] (by kernel_rfl):ae (n+17) (173,0) [.obj 9,.tup [I u,I v],.bool false] (K G d)=sv (I r) (K cC d))]) (cU.trans u3) ?_;rw [PB m im.pl im.pr,show eB A|||eB B=bC [eB A,eB B] from by show _=_|||(_|||0);rw [Nat.or_zero]];exact v3
end
noncomputable def eH:List (List Nat):=[[],[1],[2,0],[1,2],[0],[0,1],[0,2],[0,2,0],[0,1,2],[0,0],[0,0,1],[0,0,2],[0,0,2,0],[0,0,1,2]]
noncomputable def gw (p:List Nat):List (Nat×Nat):=(List.range p.length).map λj=>(j,p.getD j 0)
noncomputable def bY (p:List Nat)(ts:Nat->Nat):List (Nat×Nat):=(gw p).map λx=>(ts x.1,x.2)
noncomputable def bV (e:Nat×Nat):V:=.tup [I e.1,I e.2]
noncomputable def tp (p:List Nat):Nat:=(p.takeWhile (·<2)).length
noncomputable def ow (p:List Nat):Nat:=if 2∈p then 542 else bC ((List.range (p.length+1-p.count 0)).map λj=>2^(1+(p.count 0+j)))
section
variable{n:Nat} {σ:St} {ts:Nat->Nat} {ro:Nat}
def N6:∀p∈eH,ae (n+1) (70,0) [.list ((bY p ts).map bV),.tup [.int 3]] σ=sv (.int (-1)) σ:=fG (by kernel_rfl)
def LF:∀p∈eH,ae (n+2) (71,0) [.obj 0,.list ((bY p ts).map bV)] σ=some (.ml ((bY p ts).map bV),σ):=fG (by kernel_rfl)
def N7:∀p∈eH,ae (n+2) (72,0) [.obj 0,.list ((bY p ts).map bV)] σ=sv (.list ((bY p ts).map bV)) σ:=fG (by kernel_rfl)
def AD:∀p∈eH,ae (n+1) (139,0) [rv (.tup (bY p ts) ro)] σ=sv (I (tp p)) σ:=fG (by kernel_rfl)
def Ro:∀p∈eH,ae (n+1) (133,0) [rv (.tup (bY p ts) ro)] σ=sv (I (p.count 0)) σ:=fG (by kernel_rfl)
def Rp:∀p∈eH,ae (n+1) (134,0) [rv (.tup (bY p ts) ro)] σ=sv (.int (if 2∈p then-1 else p.length)) σ:=fG (by kernel_rfl)
end
section
variable{n t m:Nat} {G N:List Row} {d:Sh} {L:Tab}
def wG {α:Type}{m dd k c:Nat}{i:Nat×Nat}{vars:bL}(ho:oZ i k=true){it:α->V}{sel:α->Bool}{g:α->Nat}:∀{l:List α}{G:List Row},TT G->G.length+c*l.length<=1000000->
  (∀a∈l,∀aj,G<+:aj->TT aj->aj.length+c<=1000000->∃t aB,(∀Z,fz m dd i k vars (it a) (K aj d) Z=Z (cond (sel a) (some (I t)) none) (K aB d))/\Up aj aB c/\(sel a=true->Val L aB t (g a)))->
  ∃tms N,(∀Z,eN m dd i k vars (l.map it) (K G d) Z=Z (kv tms) (K N d))/\Up G N (c*l.length)/\(∀x∈tms,Val L N x.1 x.2)/\tms.map (·.2)=(l.filter sel).map g:=by
 intro z_
 induction z_ with
 |nil=>intro G h _ _;exact d6 ([]) G (jc ho) (Up.refl h) (λx Y=>cj Y) rfl
 |cons a l ak=>
  intro G h room hl;have room:G.length+(c+c*l.length)<=1000000:=by rw [Nat.add_comm c];exact room
  refine bc λfj=>aw (hl a mS G (List.prefix_refl _) h (nT (nA (lA c _) _) room)) λt aj H u1 v1=>hZ (ak u1.t (u1.room room) λb hb cC p=>hl b (aT _ hb) cC (u1.pre.trans p)) λtms aB M u2 v2 e2=>fj ?_;have u:=(u1.trans u2).mono (by rw [Nat.add_comm];exact nR _);have hc:=fY H M;refine List.filter_cons.symm▸?_;generalize e:sel a=z_;induction z_ with
  |false=>rw [e] at hc;exact d6 tms aB hc u v2 e2
  |true=>
   rw [e] at hc;refine d6 ((t,g a)::tms) aB hc u (λx Y=>?_) (by refine List.map_cons.symm▸e2.symm▸?_;rfl);rcases mE Y with rfl|Y
   ·exact (v1 e).up u2.pre
   ·exact v2 x Y
def tI (ai:L.Good)(h:TT G)(room:G.length<1000000){l:List (Nat×Nat)}(hl:∀x∈l,Val L G x.1 x.2){pv:V}(hi:bA pv=some (kv l)):∃t N,ae (n+3) (86,0) [.obj 0,pv] (K G d)=sv (I t) (K N d)/\Up G N 1/\Val L N t (bC (l.map (·.2))):=Ax ai h room (by refine hi.symm▸?_;refine List.map_map.symm▸?_;rfl) hl
def Rq {k:Nat}(h:TT G)(room:G.length+1<=1000000)(v:Val Lv G t m)(hk:k<3):∃r N,ae (n+5) (135,0) [.obj 0,bV (t,k)] (K G d)=sv (I r) (K N d)/\Up G N 1/\Val Lv N r (wide (decide (k=1)) m):=by
 have e3:=neN (show k≠3 by exact Nat.ne_of_lt ‹_›);have e1:=dx k 1;generalize q:decide (k=1)=z_;induction z_ with
 |true=>replace e1:=q▸e1;exact aw (oO (n:=n) (d:=d) h room v) λr N H M h3=>aD r N (aa [.z 1,.b e3,.z 1,.b e1,.z 1,.r H]) M h3
 |false=>replace e1:=q▸e1;exact aD t G (aa [.z 1,.b e3,.z 1,.b e1,.z 1]) ((Up.refl h).mono (lZ _)) v
structure TupAt (G:List Row)(t:Nat)(p:List Nat)(ts K:Nat->Nat)(ro:Nat):Prop where
 row:G[t]?=some (.tup (bY p ts) ro)
 hp:p∈eH
 ro:ro=0\/ro=1
 T:∀j<p.length,Val Lv G (ts j) (K j)
def TupAt.up {p:List Nat}{ts K:Nat->Nat}{ro:Nat}(u:G<+:N)(h:TupAt G t p ts K ro):TupAt N t p ts K ro:=⟨bg u h.row,h.hp,h.ro,λj hj=>(h.T j hj).up u⟩
def rx {p:List Nat}(hp:p∈eH):p.length<=4/\∀x∈gw p,x.1<p.length/\x.2<3:=by
 have:eH.all (λp=>decide (p.length<=4)&&(gw p).all λx=>decide (x.1<p.length)&&decide (x.2<3))=true:=by kernel_rfl
 have:=aE this p hp;simp only [Bool.and_eq_true,decide_eq_true_eq,List.all_eq_true] at this;exact this
noncomputable def yX (p:List Nat)(K:Nat->Nat)(k:Nat):Nat:=bC (((gw p).drop k).map λx=>wide (decide (x.2=1)) (K x.1))
noncomputable def jz (ts:Nat->Nat)(x:Nat×Nat):V:=bV (ts x.1,x.2)
def Ai (p:List Nat)(ts:Nat->Nat)(k:Nat):((bY p ts).map bV).drop k=((gw p).drop k).map (jz ts):=by refine List.map_map.symm▸List.map_drop▸?_;rfl
def AE (p:List Nat):(gw p).length=p.length:=by delta gw;rw [lM,List.length_range]
def tJ (p:List Nat)(ts:Nat->Nat):((bY p ts).map bV).length=p.length:=by delta bY;rw [lM,lM,AE]
def F4 {p:List Nat}{ts eJ:Nat->Nat}{ro k dd c:Nat}{i:Nat×Nat}{vars:bL}(h:TT G)(room:G.length+4<=1000000)(ta:TupAt G t p ts eJ ro)(ho:oZ i c=true)
  (turn:∀(x:Nat×Nat)(r:Nat)(aj aB:List Row),ae (n+5) (135,0) [.obj 0,jz ts x] (K aj d)=sv (I r) (K aB d)->∀Z,fz (n+5) dd i c vars (jz ts x) (K aj d) Z=Z (some (I r)) (K aB d)):
  ∃l N,(∀Z,eN (n+5) dd i c vars (((gw p).drop k).map (jz ts)) (K G d) Z=Z (kv l) (K N d))/\Up G N 4/\(∀x∈l,Val Lv N x.1 x.2)/\bC (l.map (·.2))=yX p eJ k/\l.length<=4:=by
 have hp:=rx ta.hp;have hlen:((gw p).drop k).length<=4:=by rw [List.length_drop,AE];exact yy hp.1
 obtain ⟨l,N,H,M,h3,h4⟩:=wG (d:=d) (dd:=dd) (c:=1) (vars:=vars) ho (it:=jz ts) (sel:=λ_=>true) (l:=(gw p).drop k) h (by rw [Nat.one_mul];exact nT (nA hlen _) room) λx Y aj pre H rJ=>by have:=hp.2 x (List.mem_of_mem_drop Y);exact aw (Rq (n:=n) (d:=d) H rJ ((ta.T x.1 this.1).up pre) this.2) λr aB e1 e2 e3=>aD r aB (turn x r aj aB e1) e2 (λ_=>e3)
 have h4:l.map (·.2)=((gw p).drop k).map λx=>wide (decide (x.2=1)) (eJ x.1):=h4.symm▸(List.filter_eq_self.mpr λ_ _=>rfl).symm▸rfl;have hl:=congrArg List.length h4;rw [lM,lM] at hl;exact Cg l N H (M.mono (by rw [Nat.one_mul];exact hlen)) h3 (congrArg bC h4) (nT (Nat.le_of_eq hl) hlen)
noncomputable def YR (row:V):bL:=[nv "tab" (.val (.obj 0)),nv "row" (.val row)]
def K9 {p:List Nat}{ts eJ:Nat->Nat}{ro:Nat}(h:TT G)(room:G.length+5<=1000000)(ta:TupAt G t p ts eJ ro):
  ∃r N,ae (n+6) (136,0) [.obj 0,rv (.tup (bY p ts) ro)] (K G d)=sv (I r) (K N d)/\Up G N 5/\Val Lv N r (yX p eJ 0):=by
 refine bc λiw=>?_;obtain ⟨l,aj,H,M,h3,h4,h5⟩:=F4 (n:=n) (d:=d) (dd:=38) (i:=(136,0)) (c:=0) (vars:=YR (rv (.tup (bY p ts) ro))) h (Nat.le_of_succ_le room) ta (by kernel_rfl) λx r aj aB e=>by exact ew [.r e]
 refine aw (tI Gv (n:=n+2) (d:=d) (pv:=.list (kv l)) M.t (M.room (m:=1) room) h3 rfl) λr aB e1 e2 e3=>iw ?_;replace H:=(Ai p ts 0).symm▸H;exact aD r aB (aa [.z 4,.g (gT (n:=((bY p ts).map bV).length) (by rw [tJ];exact nT (rx ta.hp).1 (nl rfl))),.c H,.r e1]) (M.trans e2) (h4▸e3)
end
section
variable{n t m:Nat} {G N:List Row} {d:Sh} {p:List Nat} {ts eJ:Nat->Nat} {ro:Nat}
def kT {k:Nat}(h:k<=1000):bQ (k:Int)=true:=(congr (congrArg and (dT (yz (nT h (nl rfl))).1)) (dT (yz (nT h (nl rfl))).2):)
def MI {xs:List V}{k:Nat}(h:k<=xs.length)(hl:xs.length<=1000):nX (.tup xs) (some (k:Int)) none=some (.val (.tup (xs.drop k))):=by show((guard (aY xs.length&&decide (0<=(k:Int))&&bQ k) _).bind _).bind _=_;rw [dy ((nT ‹_› (nl rfl))),kT ((nT ‹_› ‹_›)),dT ((Int.natCast_nonneg _))];show some (LV.val (V.tup ((xs.take xs.length).drop (min (k:Int).toNat xs.length))))=_;exact List.take_length.symm▸(show min (k:Int).toNat xs.length=k from by rw [Int.toNat_natCast];exact Nat.min_eq_left h).symm▸rfl
noncomputable def rK (p:List Nat)(K:Nat->Nat):Option Nat:=if tp p<p.length then some (yX p K (tp p)) else none
def Cd (p:List Nat):tp p<=p.length:=(List.takeWhile_prefix _).length_le
def PC (h:TT G)(room:G.length+5<=1000000)(ta:TupAt G t p ts eJ ro):
  ∃r N,ae (n+6) (148,0) [.obj 9,rv (.tup (bY p ts) ro)] (K G d)=sv (.int r) (K N d)/\Up G N 5/\d_ N r (rK p eJ):=by
 have l4:=(rx ta.hp).1;have sl:=MI (k:=tp p) (by rw [(tJ p ts)];exact Cd p) (by refine (tJ p ts).symm▸?_;exact nT ‹_› (nl rfl));have tl:=AD (n:=n+4) (σ:=K G d) (ts:=ts) (ro:=ro) p ta.hp;rw [Ai] at sl;have hd:((gw p).drop (tp p)).length=p.length-tp p:=by rw [List.length_drop,AE]
 generalize e:(gw p).drop (tp p)=z_;induction z_ with
 |nil=>rw [e] at sl hd;have hd:0=p.length-tp p:=hd;exact aD (-1) G (aa [.z 3,.r tl,.l sl,.z 2]) ((Up.refl h).mono (lZ _)) (by delta rK;rw [if_neg (XT hd)];exact rfl)
 |cons x xs=>
  refine bc λrW=>?_;obtain ⟨l,aj,H,M,h3,h4,h5⟩:=F4 (n:=n) (d:=d) (dd:=37) (i:=(148,0)) (c:=0) (vars:=[nv "host" (.val (.obj 9)),nv "row" (.val (rv (.tup (bY p ts) ro))),nv "late" (.val (.tup (((gw p).drop (tp p)).map (jz ts))))]) h (Nat.le_of_succ_le room) ta (by kernel_rfl) λx r aj aB e=>by exact ew [.r e]
  refine aw (tI Gv (n:=n+2) (d:=d) (pv:=.list (kv l)) M.t (M.room (m:=1) room) h3 rfl) λr aB e1 e2 e3=>rW ?_;have Dk:0<p.length-tp p:=by refine hd▸e.symm▸?_;exact Nat.succ_pos _
  rw [e] at sl H;have l5:((x::xs).map (jz ts)).length<=1048576:=by rw [lM,<-e,hd];exact nT (yy l4) (nl rfl)
  have tr:k8 (.tup ((x::xs).map (jz ts)))=some true:=by show guard (aY ((x::xs).map (jz ts)).length) _=_;rw [dy l5];rfl
  refine aD r aB ?_ (M.trans e2) (by delta rK;rw [if_pos (XS Dk)];exact (af r rfl (h4▸e3)));exact aa [.z 3,.r tl,.l sl,.b tr,.z 1,.g (gT l5),.c H,.r e1]
def Rr (h:au G){j:Nat}(hj:j<4)(hk:G[t]?=some (.num j 0)):Val Lv G t (2^(1+j)):=by
 have:j=0\/j=1\/j=2\/j=3:=(C_ ‹_›);rcases this with rfl|rfl|rfl|rfl
 ·exact (iu Gv (j:=1) h rfl hk).2
 ·exact (iu Gv (j:=2) h rfl hk).2
 ·exact (iu Gv (j:=3) h rfl hk).2
 ·exact (iu Gv (j:=4) h rfl hk).2
def zK {a b:Nat}(ha:a<=1000)(hb:b<=1000):bA (.fH (a:Int) (b:Int))=some ((List.range (b-a)).map λi=>I (a+i)):=by show guard (bQ a&&bQ b&&aY (b-(a:Int)).toNat) (some ((List.range (b-(a:Int)).toNat).map λi=>V.int (a+(i:Nat))))=_;rw [(XI:(b-(a:Int)).toNat=b-a),kT ha,kT hb,dy ((yy (nT ‹_› (nl rfl))))];rfl
def LG (h:TT G)(room:G.length<1000000)(j:Nat):∃i N,ae (n+2) (68,0) [.obj 0,I j] (K G d)=sv (I i) (K N d)/\Up G N 1/\N[i]?=some (.num j 0):=by exact aw (fN (n:=n) (d:=d) (k:=.num j 0) h rfl room λU e=>nomatch e) λi N H M h3=>aD i N (aa [.r H]) M h3
def SE (hp:p∈eH):p.count 0<=p.length/\(2∉p->p.length<=3):=by
 refine ⟨List.count_le_length,λh=>?_⟩;have:eH.all (λp=>p.contains 2||decide (p.length<=3))=true:=by kernel_rfl
 have:=aE this p hp;rw [Bool.or_eq_true,List.contains_iff_mem,decide_eq_true_eq] at this;exact this.resolve_left h
noncomputable def cu:Str:=.ofString "length"
def MJ (h:TT G)(room:G.length+5<=1000000)(ta:TupAt G t p ts eJ ro):
  ∃r fl N,ae (n+6) (137,0) [.obj 0,rv (.tup (bY p ts) ro)] (K G d)=sv (pv ⟨cu,r,fl,0⟩) (K N d)/\fl&&&1=0/\Up G N 5/\Val Lv N r (ow p):=by
 have mo:=Rp (n:=n+4) (σ:=K G d) (ts:=ts) (ro:=ro) p ta.hp;have ne:=Ro (n:=n+4) (σ:=K G d) (ts:=ts) (ro:=ro) p ta.hp;by_cases M:2∈p
 ·replace mo:=(if_pos M)▸mo;have v:Val Lv G 7 (ow p):=by delta ow;refine (if_pos M).symm▸?_;exact (iu Gv (j:=9) h.t rfl (bg h.t.pre rfl)).2
  have u:=(Up.refl h).mono (lZ 5);rcases ta.ro with rfl|rfl
  ·exact fB 7 0 G (aa [.z 4,.r mo,.z 1]) rfl u v
  ·exact fB 7 2 G (aa [.z 4,.r mo,.z 1]) rfl u v
 ·replace mo:=(if_neg M)▸mo;have c:=SE ta.hp;have l3:=c.2 M;have yY:p.length+1<=1000:=nT (Nat.succ_le_succ l3) (nl rfl);have Ke:p.count 0<=1000:=nT c.1 (Nat.le_of_succ_le yY);have rg:blt .range [I (p.count 0),.int (p.length+1)]=some (.val (.fH (p.count 0) (p.length+1))):=by
   show guard (bQ (p.count 0:Nat)&&bQ ((p.length+1:Nat):Int)) _=_;rw [kT Ke,kT yY];rfl
  have it:bA (.fH (p.count 0) (p.length+1))=some ((List.range (p.length+1-p.count 0)).map λi=>I (p.count 0+i)):=zK (b:=p.length+1) Ke yY;have ft:=gT (n:=((List.range (p.length+1-p.count 0)).map λi=>I (p.count 0+i)).length) (by rw [lM,List.length_range];exact nT (yy yY) (nl rfl));have go:∀fl:Nat,∃l aj,(∀Z,eN (n+5) 39 (137,0) 0 [nv "tab" (.val (.obj 0)),nv "row" (.val (rv (.tup (bY p ts) ro))),nv "flags" (.val (I fl)),nv "sizes" .unset] ((List.range (p.length+1-p.count 0)).map λi=>I (p.count 0+i)) (K G d) Z=Z (kv l) (K aj d))/\Up G aj (1*(List.range (p.length+1-p.count 0)).length)/\(∀x∈l,Val Lv aj x.1 x.2)/\l.map (·.2)=((List.range (p.length+1-p.count 0)).filter λ_=>true).map λi=>2^(1+(p.count 0+i)):=λfl=>wG (by kernel_rfl) (sel:=λ_=>true) h (by refine List.length_range.symm▸?_;exact XW ‹_› ‹_›) λj hj aj pre t1 r1=>by refine aw (LG (n:=n+3) (d:=d) t1 r1 (p.count 0+j)) λi aB e1 e2 e3=>?_;exact aD i aB (ew [.r e1]) e2 (λ_=>Rr e2.t.t (lL (XR (List.mem_range.mp hj) (nR _)) (Nat.succ_le_succ l3)) e3)
  have fin:∀fl,fl&&&1=0->(∀l (aj aB) r,(∀Z,eN (n+5) 39 (137,0) 0 [nv "tab" (.val (.obj 0)),nv "row" (.val (rv (.tup (bY p ts) ro))),nv "flags" (.val (I fl)),nv "sizes" .unset] ((List.range (p.length+1-p.count 0)).map λi=>I (p.count 0+i)) (K G d) Z=Z (kv l) (K aj d))->ae (n+5) (86,0) [.obj 0,.list (kv l)] (K aj d)=sv (I r) (K aB d)->
    ae (n+6) (137,0) [.obj 0,rv (.tup (bY p ts) ro)] (K G d)=sv (pv ⟨cu,r,fl,0⟩) (K aB d))->∃r fl N,ae (n+6) (137,0) [.obj 0,rv (.tup (bY p ts) ro)] (K G d)=sv (pv ⟨cu,r,fl,0⟩) (K N d)/\fl&&&1=0/\Up G N 5/\Val Lv N r (ow p):=λfl hf YS=>by
   refine bc λC6=>hZ (go fl) λl aj H u1 v1 e1=>?_;have u1:=u1.mono (show _<=4 by refine List.length_range.symm▸?_;exact JI ‹_›);refine aw (tI Gv (n:=n+2) (d:=d) (pv:=.list (kv l)) u1.t (u1.room (m:=1) room) v1 rfl) λr aB h3 u2 v2=>C6 (fB r fl aB (YS l aj aB r H h3) hf (u1.trans u2) ?_);delta ow;rw [if_neg M];rw [e1,List.filter_eq_self.mpr λ_ _=>rfl] at v2;exact v2
  rcases ta.ro with rfl|rfl
  ·exact fin 0 rfl λl aj aB r H h3=>aa [.z 4,.r mo,.b (lO _:aN .Lt (I p.length) (.val (.int 0))=some false),.r ne,.r mo,.z 1,.l rg,.s it,.g ft,.c H,.r h3]
  ·exact fin 2 rfl λl aj aB r H h3=>aa [.z 4,.r mo,.b (lO _:aN .Lt (I p.length) (.val (.int 0))=some false),.r ne,.r mo,.z 1,.l rg,.s it,.g ft,.c H,.r h3]
def MK {e:Nat}(h:au G)(hr:ro=0\/ro=1):∃fl:Nat,ae (n+1) (137,0) [.obj 0,rv (.arr e ro)] (K G d)=sv (pv ⟨cu,7,fl,0⟩) (K G d)/\fl&&&1=0/\Val Lv G 7 542:=by
 have v:Val Lv G 7 542:=(iu Gv (j:=9) h rfl (bg h.pre rfl)).2;rcases hr with rfl|rfl
 ·exact bX 0 (aa [.z 4]) rfl v
 ·exact bX 2 (aa [.z 4]) rfl v
end
noncomputable def iA (x:Str):Nat:=if x=.ofString "0" then 0 else if x=.ofString "1" then 1 else if x=.ofString "2" then 2 else 7
noncomputable def lg (p:List Nat)(K:Nat->Nat)(x:Str):Option Nat:=if x=.ofString "#" then some (yX p K 0) else if x=cu then some (ow p) else if fE x=true then(if iA x<tp p then some (wide (decide (p.getD (iA x) 0=1)) (K (iA x))) else rK p K) else none
noncomputable def n8 (m:Nat)(x:Str):Option Nat:=if x=cu then some 542 else if ig x=true then some m else none
structure lq (G:List Row)(t e ro m:Nat):Prop where
 row:G[t]?=some (.arr e ro)
 ro:ro=0\/ro=1
 v:Val Lv G e m
section
variable{n t m e:Nat} {G N:List Row} {d:Sh} {p:List Nat} {ts eJ:Nat->Nat} {ro:Nat} {x:Str} {σ:St}
def lq.up (u:G<+:N)(h:lq G t e ro m):lq N t e ro m:=⟨bg u h.row,h.ro,h.v.up u⟩
def Bh (Y:x∈dH)(hd:fE x=true):blt .int [.str x]=some (.val (I (iA x))):=by replace Y:x∈dH.filter fE:=List.mem_filter.mpr ⟨Y,hd⟩;clear hd;revert x;apply fG;kernel_rfl
def Rt (Y:x∈dH)(hd:fE x=true):x≠cu:=λe=>by replace hd:=e▸hd;exact absurd hd (by decide)
def Hz (Y:x∈dH):aN .Eq (.str x) (.val (.str cu))=some (decide (x=cu)):=xW (rt Y) (rt (by decide))
def SF (Y:x∈dH):x≠.ofString "#":=λe=>by rw [e] at Y;exact absurd Y (by decide)
def PD {j:Nat}(ta:TupAt G t p ts eJ ro)(hj:j<p.length):∃q,ae (n+1) (138,0) [rv (.tup (bY p ts) ro),I j] (K G d)=sv (pv q) (K G d)/\q.t=ts j/\iz q=decide (p.getD j 0=1):=by
 have l4:=(rx ta.hp).1;have Y:((bY p ts).map bV)[j]?=some (bV (ts j,p.getD j 0)):=by delta bY gw;rw [List.getElem?_map,List.getElem?_map,List.getElem?_map,List.getElem?_range hj];rfl
 have sb:=nq Y (by rw [tJ];exact nT ‹_› (nl rfl));have bs:blt .str [I j]=some (.val (.str (.ofString (toString (j:Int))))):=by show(guard (bQ j) _:Option LV)=_;rw [kT (nT (Nat.le_of_lt hj) (nT l4 (nl rfl)))];rfl
 have e1:=dx (p.getD j 0) 1;generalize q:decide (p.getD j 0=1)=z_;induction z_ with
 |true=>
  rw [q] at e1;rcases ta.ro with rfl|rfl
  ·exact bX ⟨.ofString (toString (j:Int)),ts j,1,0⟩ (aa [.z 1,.v sb,.b e1,.z 3,.l bs]) rfl (by show(1&&&1 !=0)=true;decide)
  ·exact bX ⟨.ofString (toString (j:Int)),ts j,3,0⟩ (aa [.z 1,.v sb,.b e1,.z 3,.l bs]) rfl (by show(3&&&1 !=0)=true;decide)
 |false=>
  rw [q] at e1;rcases ta.ro with rfl|rfl
  ·exact bX ⟨.ofString (toString (j:Int)),ts j,0,0⟩ (aa [.z 1,.v sb,.b e1,.z 3,.l bs]) rfl (by show(0&&&1 !=0)=false;decide)
  ·exact bX ⟨.ofString (toString (j:Int)),ts j,2,0⟩ (aa [.z 1,.v sb,.b e1,.z 3,.l bs]) rfl (by show(2&&&1 !=0)=false;decide)
def HA {q:Pr}(h:q.flags&&&1=0):iz q=false:=by delta iz;refine h.symm▸?_;rfl
def LP (G:List Row)(o:Option Pr)(want Xu:Option Nat):Prop:=match o with
 |some q=>∃m,Val Lv G q.t m/\want=some (wide (iz q) m)
 |none=>want=Xu
def KP (h:TT G)(room:G.length+5<=1000000)(ta:TupAt G t p ts eJ ro)(Y:x∈dH):
  ∃o N,ae (n+8) (184,6) [.obj 9,I t,.str x] (K G d)=sv (vP o) (K N d)/\Up G N 5/\LP N o (lg p eJ x) (if fE x=true then rK p eJ else none):=by
 have r0:=aQ h.t ta.row;have el:=Hz Y;have dg:=zG (n:=n+6-1) (σ:=K G d) Y;have u0:=(Up.refl h).mono (lZ 5);have tl:=AD (n:=n+5) (σ:=K G d) (ts:=ts) (ro:=ro) p ta.hp;delta lg;refine (if_neg (SF Y)).symm▸?_;by_cases hl:x=cu
 ·replace el:=(dT hl)▸el;refine eP (MJ (n:=n) (d:=d) h room ta) λr fl N H hf M h3=>?_;have w:ae (n+7) (145,0) [.obj 9,rv (.tup (bY p ts) ro),.str x] (K G d)=sv (pv ⟨cu,r,fl,0⟩) (K N d):=aa [.b el,.r H];refine ⟨some ⟨cu,r,fl,0⟩,N,aa [.v r0,.r w],M,ow p,h3,?_⟩;rw [if_pos hl,HA hf];rfl
 ·replace el:=(dF hl)▸el;rw [if_neg hl];generalize hd:fE x=z_;induction z_ with
  |true=>
   replace dg:=hd▸dg;have lt:=yR (iA x) (tp p);refine (if_pos rfl).symm▸?_;by_cases q:iA x<tp p
   ·rw [dT (Int.ofNat_lt.mpr q)] at lt;refine bW (PD (n:=n+5) (d:=d) ta (lL q (Cd p))) λpr H M h3=>?_;have w:ae (n+7) (145,0) [.obj 9,rv (.tup (bY p ts) ro),.str x] (K G d)=sv (pv pr) (K G d):=aa [.b el,.r dg,.l (Bh Y hd),.r tl,.b lt,.l (Bh Y hd),.r H];refine ⟨some pr,G,aa [.v r0,.r w],u0,eJ (iA x),M▸ta.T _ (lL q (Cd p)),?_⟩;rw [if_pos q,h3]
   ·rw [dF (HI q)] at lt;exact aD none G (aa [.v r0,.r (by exact aa [.b el,.r dg,.l (Bh Y hd),.r tl,.b lt] (by kernel_rfl):ae (n+7) (145,0) [.obj 9,rv (.tup (bY p ts) ro),.str x] (K G d)=sv .none (K G d))]) u0 (if_neg q)
  |false=>replace dg:=hd▸dg;exact aD none G (aa [.v r0,.r (by exact aa [.b el,.r dg,.z 1] (by kernel_rfl):ae (n+7) (145,0) [.obj 9,rv (.tup (bY p ts) ro),.str x] (K G d)=sv .none (K G d))]) u0 rfl
def KQ (h:TT G)(ta:lq G t e ro m)(Y:x∈dH)(hd:fE x=false):
  ∃o,ae (n+8) (184,6) [.obj 9,I t,.str x] (K G d)=sv (vP o) (K G d)/\LP G o (n8 m x) none:=by
 have el:=Hz Y;have dg:=zG (n:=n+6-1) (σ:=K G d) Y;delta n8;refine (Ah Y).symm▸hd.symm▸?_;rw [hd] at dg;by_cases hl:x=cu
 ·rw [dT hl] at el;refine bW (MK (n:=n+5) (d:=d) (e:=e) h.t ta.ro) λfl H hf h3=>⟨some ⟨cu,7,fl,0⟩,aa [.v (aQ h.t ta.row),.r (by exact aa [.b el,.r H] (by kernel_rfl):ae (n+7) (145,0) [.obj 9,rv (.arr e ro),.str x] (K G d)=sv (pv ⟨cu,7,fl,0⟩) (K G d))],542,h3,?_⟩;rw [if_pos hl,HA hf];rfl
 ·rw [dF hl] at el;rw [if_neg hl];exact af none (aa [.v (aQ h.t ta.row),.r (by exact aa [.b el,.r dg,.z 1] (by kernel_rfl):ae (n+7) (145,0) [.obj 9,rv (.arr e ro),.str x] (K G d)=sv .none (K G d))]) rfl
end
section
variable{n t m e i:Nat} {G N:List Row} {d:Sh} {p:List Nat} {ts eJ:Nat->Nat} {ro:Nat} {x:Str} {σ:St}
def PE (h:TT G)(room:G.length+10<=1000000)(ta:TupAt G t p ts eJ ro)(Y:x∈dH):
  ∃r N,ae (n+10) (151,0) [.obj 9,I t,.str x] (K G d)=sv (.int r) (K N d)/\Up G N 10/\d_ N r (lg p eJ x):=by
 have w:=cV h.t ta.row (show 12≠1 by decide);have f8:=λn=>ip (n:=n) (d:=d) h.t ta.row (show 12≠14 by decide) (show 12≠15 by decide);have ek:ae (n+9) (66,0) [.obj 0,I t] (K G d)=sv (I 12) (K G d):=aa [.v (aQ h.t ta.row),.z 1];refine aw (KP (n:=n) (d:=d) h (nT (nA (by decide) _) room) ta Y) λo aj H M ho=>?_;have pr:ae (n+9) (146,0) [.obj 9,I t,.str x] (K G d)=sv (vP o) (K aj d):=aa [.r (f8 (n+7)),.v (aQ h.t ta.row),.z 4,.r H];have is:=Cc o
 induction o with
 |some q=>refine aq ho λm vm e=>aw (Bf (n:=n+4) (d:=d) M.t (M.cJ room (by decide)) vm) λr aB h3 h4 h5=>?_;exact aD r aB (aa [.r (f8 (n+8)),.b (neN (w 0 (by decide))),.b (neN (w 13 (by decide))),.r ek,.z 1,.r pr,.b is,.r h3]) ((M.trans h4).mono (by decide)) (by refine e.symm▸?_;exact (af r rfl h5))
 |none=>
  have r1:=aQ M.t.t (bg M.pre ta.row);have dg:=zG (n:=n+7) (σ:=K aj d) Y;refine ho.symm▸?_;generalize hd:fE x=z_;induction z_ with
  |true=>rw [hd] at dg;refine aw (PC (n:=n+2) (d:=d) M.t (M.room room) (ta.up M.pre)) λr aB h3 h4 h5=>?_;have ir:ae (n+9) (149,0) [.obj 9,I t,.str x] (K aj d)=sv (.int r) (K aB d):=aa [.v r1,.z 6,.r dg,.r h3];exact aD r aB (aa [.r (f8 (n+8)),.b (neN (w 0 (by decide))),.b (neN (w 13 (by decide))),.r ek,.z 1,.r pr,.b is,.r ir]) (M.trans h4) h5
  |false=>rw [hd] at dg;exact aD (-1) aj (aa [.r (f8 (n+8)),.b (neN (w 0 (by decide))),.b (neN (w 13 (by decide))),.r ek,.z 1,.r pr,.b is,.r (aa [.v r1,.z 6,.r dg,.z 1] (by kernel_rfl):ae (n+9) (149,0) [.obj 9,I t,.str x] (K aj d)=sv (.int (-1)) (K aj d))]) (M.mono (by decide)) rfl
def PF (h:TT G)(room:G.length+1<=1000000)(ta:lq G t e ro m)(Y:x∈dH)(hd:fE x=false):
  ∃r N,ae (n+10) (151,0) [.obj 9,I t,.str x] (K G d)=sv (.int r) (K N d)/\Up G N 1/\d_ N r (n8 m x):=by
 have w:=cV h.t ta.row (show 11≠1 by decide);have f8:=λn=>ip (n:=n) (d:=d) h.t ta.row (show 11≠14 by decide) (show 11≠15 by decide);have ek:ae (n+9) (66,0) [.obj 0,I t] (K G d)=sv (I 11) (K G d):=aa [.v (aQ h.t ta.row),.z 1];refine aq (KQ (n:=n) (d:=d) h ta Y hd) λo H ho=>?_;have pr:ae (n+9) (146,0) [.obj 9,I t,.str x] (K G d)=sv (vP o) (K G d):=aa [.r (f8 (n+7)),.v (aQ h.t ta.row),.z 2,.r H];have is:=Cc o
 induction o with
 |some q=>refine bc λpU=>aq ho λm vm e=>aw (Bf (n:=n+4) (d:=d) h room vm) λr aB h3 h4 h5=>pU ?_;exact aD r aB (aa [.r (f8 (n+8)),.b (neN (w 0 (by decide))),.b (neN (w 13 (by decide))),.r ek,.z 1,.r pr,.b is,.r h3]) h4 (by refine e.symm▸?_;exact (af r rfl h5))
 |none=>have dg:=EG (n:=n+6) (σ:=K G d) Y;rw [hd] at dg;exact aD (-1) G (aa [.r (f8 (n+8)),.b (neN (w 0 (by decide))),.b (neN (w 13 (by decide))),.r ek,.z 1,.r pr,.b is,.r (aa [.v (aQ h.t ta.row),.z 4,.r dg,.z 1] (by kernel_rfl):ae (n+9) (149,0) [.obj 9,I t,.str x] (K G d)=sv (.int (-1)) (K G d))]) ((Up.refl h).mono (lZ _)) (by refine ho.symm▸?_;exact rfl)
def oP {k:Row}{y:Int}(h:au G)(hk:G[t]?=some k)(yZ:rk k=11\/rk k=12)(hl:ae (n+11) (178,0) [.obj 9,I t,I i] (K G d)=sv (.int y) (K N d)):ae (n+12) (180,0) [.obj 9,I t,I i] (K G d)=sv (.int y) (K N d):=by
 have ek:ae (n+11) (66,0) [.obj 0,I t] (K G d)=sv (I (rk k)) (K G d):=aa [.v (aQ h hk),.v (cq k)];have ei:=ma t [5,4,3,1] λq=>cV h hk (yZ.elim (λq=>iV (Nat.le_of_eq q.symm) rfl) λq=>iV (Nat.le_of_eq q.symm) rfl) t (by
  have:[5,4,3,1].all ([0,1,2,3,4,5,6,7,10,13].contains ·)=true:=by decide
  exact cE (aE this t q)) rfl
 rcases yZ with q|q<;>rw [q] at ek
 ·exact aa [.r ek,.b ei,.z 1,.r hl]
 ·exact aa [.r ek,.b ei,.z 2,.r hl]
def F5 (k:e9 G i x):x∈dH/\oo x=.str x\/i=6/\x=.ofString ""/\oo x=.none\/i=7/\x=.ofString "#"/\oo x=.none:=by
 induction k with
 |str f hk Y=>exact .inl ⟨Y,if_pos Y⟩
 |num m f hk hm e Y=>exact .inl ⟨Y,if_pos Y⟩
 |string h e=>exact .inr (.inl (bx h e (by rw [e];exact if_neg (by decide))))
 |number h e=>exact .inr (.inr (bx h e (by rw [e];exact if_neg (by decide))))
def ML (h:TT G)(room:G.length+10<=1000000)(ta:TupAt G t p ts eJ ro)(k:e9 G i x):
  ∃r N,ae (n+12) (180,0) [.obj 9,I t,I i] (K G d)=sv (.int r) (K N d)/\Up G N 10/\d_ N r (lg p eJ x):=by
 have kt:=zm (n:=n+8) (d:=d) h.t k;rcases F5 k with⟨Y,hv⟩|⟨rfl,rfl,hv⟩|⟨rfl,rfl,hv⟩<;>rw [hv] at kt
 ·exact aw (PE (n:=n) (d:=d) h room ta Y) λr N H M h3=>aD r N (oP h.t ta.row (.inr rfl) (aa [.v (aQ h.t ta.row),.r kt,.z 4,.r H])) M h3
 ·exact aD (-1) G (oP h.t ta.row (.inr rfl) (aa [.v (aQ h.t ta.row),.r kt,.z 5])) ((Up.refl h).mono (lZ _)) rfl
 ·exact aw (K9 (n:=n+4) (d:=d) h (nT (nA (by decide) _) room) ta) λr N H M h3=>⟨r,N,oP h.t ta.row (.inr rfl) (aa [.v (aQ h.t ta.row),.r kt,.z 3,.r H]),M.mono (by decide),r,rfl,h3⟩
def MM (h:TT G)(room:G.length+1<=1000000)(ta:lq G t e ro m)(k:e9 G i x):
  ∃r N,ae (n+12) (180,0) [.obj 9,I t,I i] (K G d)=sv (.int r) (K N d)/\Up G N 1/\d_ N r (n8 m x):=by
 have r0:=aQ h.t ta.row;have kt:=zm (n:=n+8) (d:=d) h.t k;have u0:=(Up.refl h).mono (lZ 1);rcases F5 k with⟨Y,hv⟩|⟨rfl,rfl,hv⟩|⟨rfl,rfl,hv⟩<;>replace kt:=hv▸kt
 ·have bk:=Rh (n:=n+9) (σ:=K G d) Y;generalize hd:fE x=z_;induction z_ with
  |true=>replace bk:=hd▸bk;refine aD e G (oP h.t ta.row (.inl rfl) (aa [.v r0,.r kt,.z 3,.r bk,.z 1])) u0 ?_;delta n8;exact (if_neg (Rt Y hd)).symm▸(Ah Y).symm▸hd.symm▸(af e rfl ta.v)
  |false=>replace bk:=hd▸bk;exact aw (PF (n:=n) (d:=d) h room ta Y hd) λr N H M h3=>aD r N (oP h.t ta.row (.inl rfl) (aa [.v r0,.r kt,.z 3,.r bk,.z 1,.r H])) M h3
 ·exact aD (-1) G (oP h.t ta.row (.inl rfl) (aa [.v r0,.r kt,.z 5])) u0 rfl
 ·exact ⟨e,G,oP h.t ta.row (.inl rfl) (aa [.v r0,.r kt,.z 4]),u0,e,rfl,ta.v⟩
noncomputable def y5 (t:Nat)(row:V)(le:LV)(σ:St):X:=⟨ez (164,0),[nv "tab" (.val (.obj 0)),nv "t" (.val (I t)),nv "row" (.val row),nv "part" .unset,(.ofString "elem",le)],σ⟩
def N8 {row:V}:∀{l:List (Nat×Nat)}{le:LV},(∀x∈l,x.2<3)->∃DH,∀Z,cF n 10 (164,0) 1 (l.map (jz ts)) (y5 t row le σ) Z=Z .next (y5 t row DH σ):=by
 intro z_
 induction z_ with
 |nil=>intro le _;exact ⟨le,dk (by kernel_rfl)⟩
 |cons a l ak=>intro le h;have ht:∀Z,aZ n 10 (164,0) 1 (jz ts a) (y5 t row le σ) Z=Z .next (y5 t row (.val (jz ts a)) σ):=aX [.z 1,.b (neN (show a.2≠3 by have:=h a mS;exact Nat.ne_of_lt ‹_›))];obtain ⟨DH,hl⟩:=ak (le:=.val (jz ts a)) λx Y=>h x (aT _ Y);exact ⟨DH,cD ht hl⟩
noncomputable def se:List Nat:=[0,1,2,3,4,5,10,13]
noncomputable def vn:List Nat:=[6,7,14,15]
def IB {k:Row}(h:au G)(hk:G[t]?=some k)(hr:rk k≠1):∀x∈se,t≠x:=λx Y=>cV h hk hr x (by
 have:se.all ([0,1,2,3,4,5,6,7,10,13].contains ·)=true:=by decide
 exact cE (aE this x Y))
def TupAt.cl (h:au G)(ta:TupAt G t p ts eJ ro):kN G d t se vn:=by refine ⟨(af _ ta.row (by decide:12∉vn)),IB h ta.row (show 12≠1 by decide),λn=>aM (N8 (n:=n+2) (t:=t) (ts:=ts) (row:=rv (.tup (bY p ts) ro)) (σ:=K G d) (le:=.unset) λx Y=>((rx ta.hp).2 x Y).2) λle hl=>?_⟩;replace hl:=((Ai p ts 0).symm)▸hl;exact aa [.v (aQ h ta.row),.z 10,.f hl]
def lq.cl (h:au G)(ta:lq G t e ro m):kN G d t se vn:=⟨(af _ ta.row (by decide:11∉vn)),IB h ta.row (show 11≠1 by decide),λn=>aa [.v (aQ h ta.row),.z 8]⟩
end
noncomputable def oM (k:Nat):List Str:=(List.range k).map λj=>.ofString (toString ((j:Nat):Int))
noncomputable def jQ (k:Nat):List Str:=cu::oM k
noncomputable def nb (x:Str):Nat:=if x=cu then 32 else 4*2^iA x
noncomputable def y6 (k:Nat):Nat:=128|||bC ((jQ k).map nb)
section
variable{n t m e i:Nat} {G N:List Row} {d:Sh} {p:List Nat} {ts eJ:Nat->Nat} {ro:Nat} {x:Str} {σ:St}
def PG {k:Nat}(hk:k<4){vars:bL}:∀Z,eN n 39 (172,0) 0 vars ((List.range k).map λj=>I j) σ Z=Z ((oM k).map .str) σ:=by have:k=0\/k=1\/k=2\/k=3:=(C_ ‹_›);intro Z;rcases this with rfl|rfl|rfl|rfl<;>kernel_rfl
def SG {k:Nat}(hk:k<4):∀x∈jQ k,cO x/\∃j,Ln.rows[j]?=some (.str x 0)/\Ln.bits j=nb x:=by
 have key:∀x∈jQ 3,cO x/\∃j,Ln.rows[j]?=some (.str x 0)/\Ln.bits j=nb x:=λx Y=>by
  have Y:x∈[cu,.ofString "0",.ofString "1",.ofString "2"]:=Y;simp only [List.mem_cons,List.not_mem_nil,or_false] at Y;rcases Y with rfl|rfl|rfl|rfl
  ·exact ⟨by kernel_rfl,5,rfl,rfl⟩
  ·exact ⟨by kernel_rfl,2,rfl,rfl⟩
  ·exact ⟨by kernel_rfl,3,rfl,rfl⟩
  ·exact ⟨by kernel_rfl,4,rfl,rfl⟩
 intro x Y;refine key x ?_;rcases mE Y with rfl|Y
 ·exact mS
 ·(refine bT Y λj hj nh=>?_;subst nh);exact aT _ (kE ⟨j,rI (lL (List.mem_range.mp hj) (Nat.le_of_lt_succ hk)),rfl⟩)
noncomputable def Kf (row:V)(nm:LV):bL:=[nv "host" (.val (.obj 9)),nv "row" (.val row),nv "tab" (.val (.obj 0)),(.ofString "names",nm),nv "members" .unset]
def K_ {k:Row}{q:Nat}(h:TT G)(room:G.length+4<=1000000)(hq:q<4)(ht:ae (n+3) (139,0) [rv k] (K G d)=sv (I q) (K G d)):
  ∃l N,ae (n+4) (172,0) [.obj 9,rv k] (K G d)=some (.ml (kv l),K N d)/\Up G N 4/\jP N l/\bC (l.map (·.2))=y6 q:=by
 have rg:blt .range [I q]=some (.val (.fH 0 q)):=by show guard (bQ q) _=_;rw [kT (nT (Nat.le_of_lt hq) (nl rfl))];rfl
 have it:bA (.fH 0 q)=some ((List.range q).map λj=>I j):=by have:=zK (a:=0) (b:=q) ((lZ _)) (nT (Nat.le_of_lt hq) (nl rfl));refine this.trans (congrArg some (List.map_congr_left λj _=>?_));rw [Nat.zero_add]
 have gr:grown oU [.str cu] (.list ((oM q).map .str))=some ((jQ q).map .str):=by show cond (oU==eL) _ (cond (oU==oU) (guard (aY ([V.str cu].length+((oM q).map V.str).length)) _) none)=_;rw [show(oU==eL)=false by decide,beq_self_eq_true,dy (n:=[V.str cu].length+((oM q).map V.str).length) (by rw [(by delta oM;rw [lM,lM,List.length_range]:((oM q).map V.str).length=q)];exact nT (nA (Nat.le_of_lt hq) 1) (nl rfl))];rfl
 have n4:1*(jQ q).length<=4:=by delta jQ oM;rw [Nat.one_mul,List.length_cons,lM,List.length_range];exact hq
 obtain ⟨l,aj,H,u1,v1,e1⟩:=wG (d:=d) (m:=n+3) (dd:=38) (k:=2) (c:=1) (i:=(172,0)) (vars:=Kf (rv k) (.val (.list ((jQ q).map .str)))) (by kernel_rfl) (it:=V.str) (sel:=λ_=>true) (l:=jQ q) h (nT (nA n4 _) room) λx Y aj pre t1 r1=>by obtain ⟨ox,j,hj,hb⟩:=SG hq x Y;exact aw (Eg (n:=n+1) (d:=d) t1 r1 ox) λi aB e1 e2 e3=>aD i aB (ew [.r e1]) e2 (λ_=>hb▸(iu Gn e2.t.t hj e3).2)
 have e1:l.map (·.2)=(jQ q).map nb:=e1.symm▸(List.filter_eq_self.mpr λ_ _=>rfl).symm▸rfl;have ll:(kv l).length<=4:=by have:=congrArg List.length e1;rw [lM,lM] at this;delta kv;rw [lM,this,<-Nat.one_mul (jQ q).length];exact n4
 have ad:fy .Add (.list [.int 7]) (.list (kv l))=some (.ml (kv ((7,128)::l))):=by show guard (aY ([V.int 7].length+(kv l).length)) _=_;refine (dy (nT (nA ll 1) (nl rfl))).symm▸?_;rfl
 refine d6 ((7,128)::l) aj (aa [.r ht,.l rg,.s it,.g (gT (n:=((List.range q).map λj=>I j).length) (by rw [lM,List.length_range];exact nT (Nat.le_of_lt hq) (nl rfl))),.c (PG (n:=n+3) (σ:=K G d) (vars:=Kf (rv k) (.ml [.str cu])) hq),.s gr,.z 2,.g (gT (n:=((jQ q).map V.str).length) (by rw [lM,<-Nat.one_mul (jQ q).length];exact nT n4 (nl rfl))),.c H,.l ad]) (u1.mono n4) (λy hy=>?_) ?_
 ·rcases mE hy with rfl|hy
  ·exact (DE u1.t.t).2
  ·exact v1 y hy
 ·show 128|||bC (l.map (·.2))=_;refine e1.symm▸?_;rfl
def Fg {k:Row}{q:Nat}(h:TT G)(room:G.length+5<=1000000)(C:kN G d t se vn)(hk:G[t]?=some k)(yZ:rk k=11\/rk k=12)(hq:q<4)(ht:∀n,ae (n+1) (139,0) [rv k] (K G d)=sv (I q) (K G d)):
  ∃r N,ae (n+5) (175,0) [.obj 9,I t] (K G d)=sv (I r) (K N d)/\Up G N 5/\Val Ln N r (y6 q):=by
 refine bc λCo=>hZ (K_ (d:=d) h (Nat.le_of_succ_le room) hq (ht (n+2))) λl aj H M h3 h4=>aw (wu (n:=n+1) (d:=d) (pv:=.list (kv l)) M.t (M.room (m:=1) room) h3 rfl) λr aB h5 h6 h7=>Co ?_;have hf:=mh (n:=n+3) h.t C (by decide) (by decide);have ei:=ma t [1,3,4,5,10] λe=>C.wh t (by
  have:[1,3,4,5,10].all (se.contains ·)=true:=by decide
  exact cE (aE this t e)) rfl
 have ek:ae (n+4) (66,0) [.obj 0,I t] (K G d)=sv (I (rk k)) (K G d):=aa [.v (aQ h.t hk),.v (cq k)];refine aD r aB ?_ (M.trans h6) (h4▸h7);rcases yZ with q|q<;>rw [q] at ek
 ·exact aa [.r hf,.b (neN (C.wh 0 (by decide))),.b (neN (C.wh 13 (by decide))),.b (neN (C.wh 2 (by decide))),.b ei,.r ek,.z 2,.r (C.op (n+1)),.z 1,.v (aQ h.t hk),.r H,.r h5]
 ·exact aa [.r hf,.b (neN (C.wh 0 (by decide))),.b (neN (C.wh 13 (by decide))),.b (neN (C.wh 2 (by decide))),.b ei,.r ek,.z 2,.r (C.op (n+1)),.z 2,.v (aQ h.t hk),.r H,.r h5]
end
inductive Sp where
 |n
 |o (O:Ob)
 |l (m:Nat)
 |t (p:List Nat) (K:Nat->Nat)
noncomputable def Sp.at:Sp->Str->Option Nat
 |.n,_=>none
 |.o O,x=>O.at x
 |.l m,x=>n8 m x
 |.t p K,x=>lg p K x
noncomputable def Sp.has:Sp->Nat
 |.n=>0
 |.o O=>eB O
 |.l _=>y6 0
 |.t p _=>y6 (tp p)
noncomputable def Src (G:List Row)(d:Sh)(t:Nat):Sp->Prop
 |.n=>t=1\/t=3\/t=4\/t=5
 |.o O=>dG G d t O
 |.l m=>∃e ro,lq G t e ro m
 |.t p K=>∃ts ro,TupAt G t p ts K ro
def Src.up {G N:List Row}{d:Sh}{t:Nat}{p:Sp}(u:G<+:N)(h:Src G d t p):Src N d t p:=by
 induction p with
 |n=>exact h
 |o O=>exact dG.up u h
 |l m=>exact h.elim λe h=>h.elim λro h=>dB e ro (h.up u)
 |t p K=>exact h.elim λe h=>h.elim λro h=>dB e ro (h.up u)
noncomputable def yt:List Nat:=[0,2,13]
noncomputable def Ju:List Nat:=[6,14,15]
section
variable{n t i:Nat} {G N:List Row} {d:Sh} {x:Str} {p:Sp}
def kN.mono {w r w' r':List Nat}(h:kN G d t w r)(hw:w'.all (w.contains ·)=true)(hr:r'.all (r.contains ·)=true):kN G d t w' r':=⟨h.row.imp λk hk=>⟨hk.1,λe=>hk.2 (cE (aE hr _ e))⟩,λx Y=>h.wh x (cE (aE hw _ Y)),h.op⟩
def F6 (h:au G)(ht:t=1\/t=3\/t=4\/t=5):∃s,G[t]?=some (.key s):=by rcases ht with rfl|rfl|rfl|rfl<;>exact ⟨_,bg h.pre rfl⟩
def Src.cl (h:au G)(s:Src G d t p):kN G d t yt Ju:=by
 induction p with
 |n=>
  obtain ⟨k,hk⟩:=F6 h s;refine ⟨(af _ hk (by decide:1∉Ju)),λx Y=>?_,λn=>o5 h hk (show 1≠6 by decide) (show 1≠7 by decide) (show 1≠12 by decide) (show 1<10 by decide)⟩;have s:t=1\/t=3\/t=4\/t=5:=s;have:t∉yt:=by rcases s with rfl|rfl|rfl|rfl<;>decide
  exact λe=>this (e▸Y)
 |o O=>exact (dG.cl h s).mono (by decide) (by decide)
 |l m=>exact s.elim λe h'=>h'.elim λro h'=>(lq.cl h h').mono (by decide) (by decide)
 |t p K=>exact s.elim λe h'=>h'.elim λro h'=>(TupAt.cl h h').mono (by decide) (by decide)
def Src.closed (h:TT G)(room:G.length+18<=1000000)(s:Src G d t p)(k:e9 G i x):
  ∃r N,ae (n+17) (180,0) [.obj 9,I t,I i] (K G d)=sv (.int r) (K N d)/\Up G N 18/\d_ N r (p.at x):=by
 have cl:∃r N,ae (n+17) (180,0) [.obj 9,I t,I i] (K G d)=sv (.int r) (K N d)/\Up G N 18/\d_ N r (p.at x):=by
  induction p with
  |n=>
   obtain ⟨k,hk⟩:=F6 h.t s;have ek:ae (n+16) (66,0) [.obj 0,I t] (K G d)=sv (.int 1) (K G d):=aa [.v (aQ h.t hk),.z 1];refine aD (-1) G ?_ ((Up.refl h).mono (lZ _)) rfl;rcases s with rfl|rfl|rfl|rfl
   ·exact aa [.r ek,.z 2]
   ·exact aa [.r ek,.z 2]
   ·exact aa [.r ek,.z 2]
   ·exact aa [.r ek,.z 2]
  |o O=>exact N2 h room s k
  |l m=>exact bc λjq=>c9 s λe ro ta=>aw (MM (n:=n+5) (d:=d) h (nT (nA (by decide) _) room) ta k) λr N H M h3=>jq (aD r N H (M.mono (by decide)) h3)
  |t p K=>exact c9 s λe ro ta=>aw (ML (n:=n+5) (d:=d) h (nT (nA (by decide) _) room) ta k) λr N H M h3=>aD r N H (M.mono (by decide)) h3
 exact cl
def Src.index {i0:Nat}{aj:List Row}(h:au G)(pre:G<+:aj)(H:TT aj)(room:aj.length+18<=1000000)(s:Src G d t p)(k:e9 aj i x)(f2:ae (n+17) (184,2) [.obj 9,I i0] (K G d)=sv (I i) (K aj d)):
  ∃r N,ae (n+18) (181,0) [.obj 9,I t,I i0] (K G d)=sv (.int r) (K N d)/\Up aj N 18/\d_ N r (p.at x):=by
 exact aw ((s.up pre).closed (n:=n) H room k) λr N g1 g2 g3=>aD r N (K8 h H.t (s.cl h) ((s.up pre).cl H.t) (by decide) (by decide) (by decide) (by decide) (by decide) (by decide) k f2 g1) g2 g3
def e9.mG (h:au G)(k:e9 G i x):ae (n+1) (184,2) [.obj 9,I i] (K G d)=sv (I i) (K G d):=by exact xX (k.row h) λki hi i6 i7 i12 oL i2 vW=>ip h hi (Nat.ne_of_lt (lL oL (nl rfl))) (Nat.ne_of_lt (lL oL (nl rfl)))
def Src.keys (h:TT G)(room:G.length+27<=1000000)(s:Src G d t p):
  ∃r N,ae (n+18) (175,0) [.obj 9,I t] (K G d)=sv (I r) (K N d)/\Up G N 27/\Val Ln N r p.has:=by
 have bQ:G.length+5<=1000000:=nT (nA (by decide) _) room
 induction p with
 |n=>
  have hf:=mh (n:=n+16) h.t (s.cl h.t) (by decide) (by decide);refine aD 2 G ?_ ((Up.refl h).mono (lZ _)) (kV h.t);rcases s with rfl|rfl|rfl|rfl
  ·exact aa [.r hf,.z 4]
  ·exact aa [.r hf,.z 4]
  ·exact aa [.r hf,.z 4]
  ·exact aa [.r hf,.z 4]
 |o O=>exact Rn h room s
 |l m=>exact bc λpV=>bc λCC=>c9 s λe ro ta=>aw (Fg (n:=n+13) (d:=d) h bQ (ta.cl h.t) ta.row (.inl rfl) (q:=0) (nl rfl) λn=>aa [.z 2]) λr N H M h3=>CC (pV (aD r N H (M.mono (by decide)) h3))
 |t p K=>
  refine c9 s λe ro ta=>?_;have t4:tp p<4:=by
   have:eH.all (λp=>decide (tp p<4))=true:=by kernel_rfl
   exact cS (aE this p ta.hp)
  exact aw (Fg (n:=n+13) (d:=d) h bQ (ta.cl h.t) ta.row (.inr rfl) t4 λn=>AD p ta.hp) λr N H M h3=>aD r N H (M.mono (by decide)) h3
noncomputable def b_:List (Option Nat)->Option Nat
 |[]=>some 0
 |none::_=>none
 |some m::l=>(b_ l).map (m|||·)
noncomputable def sL (parts:V)(other:Nat)(b:Bool)(l:List (Nat×Nat))(lp lt:LV)(σ:St):X:=⟨ez (176,0),[nv "host" (.val (.obj 9)),nv "parts" (.val parts),nv "other" (.val (I other)),nv "by_object" (.val (.bool b)),nv "found" (.ml (kv l)),(.ofString "part",lp),(.ofString "t",lt)],σ⟩
noncomputable def Kg (b:Bool)(part other:Nat):List V:=cond b [.obj 9,I part,I other] [.obj 9,I other,I part]
def MN {parts:V}{other c:Nat}{b:Bool}{α:Type}{it:α->Nat}{sem:α->Option Nat}:∀{l:List α}{acc:List (Nat×Nat)}{G:List Row}{lp lt:LV},TT G->G.length+c*l.length<=1000000->acc.length+l.length<=100->(∀x∈acc,Val Lv G x.1 x.2)->
  (∀a∈l,∀aj,G<+:aj->TT aj->aj.length+c<=1000000->∃r aB,ae n (181,0) (Kg b (it a) other) (K aj d)=sv (.int r) (K aB d)/\Up aj aB c/\d_ aB r (sem a))->
  ∃fl kz bG lt' N,(∀Z,cF n 11 (176,0) 0 (l.map λa=>I (it a)) (sL parts other b acc lp lt (K G d)) Z=Z fl (sL parts other b kz bG lt' (K N d)))/\Up G N (c*l.length)/\
   ((b_ (l.map sem)=none/\fl=.ret (.val (.int (-1))))\/fl=.next/\(∀x∈kz,Val Lv N x.1 x.2)/\b_ (l.map sem)=some (bC (l.map λa=>(sem a).getD 0))/\kz.map (·.2)=acc.map (·.2)++l.map λa=>(sem a).getD 0):=by
 intro z_
 induction z_ with
 |nil=>intro acc G lp lt h _ _ ha _;exact mN .next acc lp lt G (dk (by kernel_rfl)) (Up.refl h) (.inr (eQ rfl ha rfl ((List.append_nil _).symm)))
 |cons a l ak=>
  intro acc G lp lt h room lim ha hl;have room:G.length+(c+c*l.length)<=1000000:=by rw [Nat.add_comm c];exact room
  refine aw (hl a mS G (List.prefix_refl _) h (nT (nA (lA c _) _) room)) λr aj H u1 v1=>?_;have e:c+c*l.length=c*(a::l).length:=Nat.add_comm ..;show∃fl kz bG lt' N,_/\Up G N (c*(a::l).length)/\((b_ (sem a::l.map sem)=none/\_)\/_/\_/\b_ (sem a::l.map sem)=_/\_);generalize hs:sem a=z_;induction z_ with
  |none=>
   replace v1:=hs▸v1;obtain rfl:=v1;have ht:∀Z,aZ n 11 (176,0) 0 (I (it a)) (sL parts other b acc lp lt (K G d)) Z=Z (.ret (.val (.int (-1)))) (sL parts other b acc (.val (I (it a))) (.val (.int (-1))) (K aj d)):=by
    induction b with
    |true=>exact aX [.r H,.z 2]
    |false=>exact aX [.r H,.z 2]
   exact mN _ _ _ _ aj (j0 (by kernel_rfl) ht) (u1.mono (by refine e▸?_;exact lA ..)) (.inl ⟨rfl,rfl⟩)
  |some m=>
   rw [hs] at v1;refine bc λBI=>?_;obtain ⟨t,rfl,v1⟩:=v1;have rfl:=lO t;have gr:=nU (xs:=kv acc) (v:=I t) (by delta kv;rw [lM];exact nT (nT (lA _ _) lim) (nl (Eq.refl true)));rw [Bg acc t m] at gr;have ht:∀Z,aZ n 11 (176,0) 0 (I (it a)) (sL parts other b acc lp lt (K G d)) Z=Z .next (sL parts other b (acc++[(t,m)]) (.val (I (it a))) (.val (I t)) (K aj d)):=by
    induction b with
    |true=>exact aX [.r H,.b rfl,.s gr]
    |false=>exact aX [.r H,.b rfl,.s gr]
   obtain ⟨fl,kz,bG,lt',aB,M,u2,h3⟩:=ak (acc:=acc++[(t,m)]) (lt:=.val (I t)) u1.t (u1.room room) (by refine List.length_append.symm▸?_;exact (by rw [Nat.add_assoc,Nat.add_comm 1];exact lim:acc.length+1+l.length<=100)) (λx Y=>by
    rcases pE Y with Y|Y
    ·exact (ha x Y).up u1.pre
    ·obtain rfl:=sE Y;exact v1) λa' YT cC pre=>hl a' (aT _ YT) cC (u1.pre.trans pre)
   refine BI ?_;refine mN fl kz bG lt' aB (cD ht M) (e▸u1.trans u2) (h3.imp (λh=>⟨by show(b_ (l.map sem)).map _=none;rw [h.1];rfl,h.2⟩) λh=>(eQ h.1 h.2.1 ?_ ?_))
   ·show(b_ (l.map sem)).map _=_;rw [h.2.2.1];show some (m|||_)=some ((sem a).getD 0|||_);rw [hs];rfl
   ·rw [h.2.2.2,List.map_append,List.append_assoc];show _=_++((sem a).getD 0::_);rw [hs];rfl
def Eh {other c:Nat}{b:Bool}{α:Type}{it:α->Nat}{sem:α->Option Nat}{l:List α}(h:TT G)(room:G.length+(c*l.length+1)<=1000000)(lim:l.length<=100)
  (hl:∀a∈l,∀aj,G<+:aj->TT aj->aj.length+c<=1000000->∃r aB,ae (n+3) (181,0) (Kg b (it a) other) (K aj d)=sv (.int r) (K aB d)/\Up aj aB c/\d_ aB r (sem a)):
  ∃r N,ae (n+4) (176,0) [.obj 9,.tup (l.map λa=>I (it a)),I other,.bool b] (K G d)=sv (.int r) (K N d)/\Up G N (c*l.length+1)/\d_ N r (b_ (l.map sem)):=by
 refine jI (MN (d:=d) (parts:=.tup (l.map λa=>I (it a))) (c:=c) (it:=it) (l:=l) (lp:=.unset) (lt:=.unset) h (Nat.le_of_succ_le room) (by rw [List.length_nil,Nat.zero_add];exact lim) (λx Y=>cj Y) hl) λfl acc lp lt aj H u1 M=>?_;rcases M with⟨e,rfl⟩|⟨rfl,v,e,e2⟩
 ·rw [e];exact aD (-1) aj (aa [.z 1,.f H]) (u1.mono (lS _)) rfl
 ·refine e.symm▸(aw (tI Gv (n:=n) (d:=d) (pv:=.list (kv acc)) u1.t (u1.room (L:=1000000) room) v rfl) λr aB h3 u2 v2=>?_);rw [e2] at v2;exact ⟨r,aB,aa [.z 1,.f H,.r h3],u1.trans u2,r,rfl,v2⟩
end
set_option genCtorIdx true in
inductive Pl where
 |a (p:Sp)
 |u (p q:Sp)
noncomputable def Pl.at:Pl->Str->Option Nat
 |.a p,x=>p.at x
 |.u p q,x=>b_ [p.at x,q.at x]
noncomputable def Pl.has:Pl->Nat
 |.a p=>p.has
 |.u p q=>p.has&&&q.has
noncomputable def iU (G:List Row)(d:Sh)(t:Nat):Pl->Prop
 |.a p=>Src G d t p
 |.u p q=>(Src G d t p/\(∀x,q.at x=p.at x)/\q.has=p.has)\/∃x y,G[t]?=some (.union [x,y])/\(Src G d x p/\Src G d y q\/Src G d x q/\Src G d y p)
def iU.up {G N:List Row}{d:Sh}{t:Nat}{p:Pl}(u:G<+:N)(h:iU G d t p):iU N d t p:=by
 induction p with
 |a p=>exact Src.up u h
 |u p q=>exact h.imp (λh=>⟨h.1.up u,h.2⟩) λh=>h.imp λx h=>h.imp λy h=>⟨bg u h.1,h.2.imp (λh=>⟨h.1.up u,h.2.up u⟩) λh=>⟨h.1.up u,h.2.up u⟩⟩
def PH (a b:Option Nat):b_ [a,b]=b_ [b,a]:=by
 cases a<;>cases b
 ·rfl
 ·rfl
 ·rfl
 ·exact congrArg some (show _|||(_|||0)=_|||(_|||0) by rw [Nat.or_zero,Nat.or_zero,Nat.or_comm])
def PI (a:Option Nat):b_ [a,a]=a:=by
 cases a
 ·rfl
 ·exact congrArg some (show _|||(_|||0)=_ by rw [Nat.or_zero,Nat.or_self])
section
variable{n t i:Nat} {G N:List Row} {d:Sh} {x:Str} {p q:Sp} {P:Pl}
def zu {U:List Nat}(h:au G)(hk:G[t]?=some (.union U))(hl:U.length<=100)(ho:∀u∈U,ae (n+1) (164,0) [.obj 0,I u] (K G d)=sv (.bool false) (K G d)):ae (n+2) (164,0) [.obj 0,I t] (K G d)=sv (.bool false) (K G d):=by
 have loop:∀{l:List Nat}{lp:LV},(∀u∈l,ae (n+1) (164,0) [.obj 0,I u] (K G d)=sv (.bool false) (K G d))->∃bG,∀Z,cF (n+1) 10 (164,0) 0 (l.map I) (oX t (rv (.union U)) lp (K G d)) Z=Z .next (oX t (rv (.union U)) bG (K G d)):=λ{l}=>by
  induction l with
  |nil=>exact λ{lp} _=>⟨lp,dk (by kernel_rfl)⟩
  |cons a l ih=>intro lp ho;exact aM (ih (lp:=.val (I a)) λu hu=>ho u (aT _ hu)) λbG hl=>⟨bG,cD (zH (ho a mS)) hl⟩
 exact aM (loop (lp:=.unset) ho) λlp jy=>aa [.v (aQ h hk),.z 6,.f jy,.z 2]
def Ei {y z i0:Nat}{aj:List Row}(h:au G)(gU:G<+:aj)(H:TT aj)(room:aj.length+37<=1000000)(hk:G[t]?=some (.union [y,z]))(sp:Src aj d y p)(sq:Src aj d z q)(k:e9 aj i x)
  (f2:ae (n+19) (184,2) [.obj 9,I i0] (K G d)=sv (I i) (K aj d)):
  ∃r N,ae (n+20) (181,0) [.obj 9,I t,I i0] (K G d)=sv (.int r) (K N d)/\Up aj N 37/\d_ N r (b_ [p.at x,q.at x]):=by
 refine bc λbu=>?_;obtain ⟨r,N,g1,g2,g3⟩:=Eh (d:=d) (b:=true) (c:=18) (it:=λb:Bool=>cond b z y) (sem:=λb=>cond b (q.at x) (p.at x)) (l:=[false,true]) H room (nl rfl) λb hb aB pre t1 rJ=>by
  have ky:=k.up pre
  induction b with
  |false=>exact Src.index (n:=n) t1.t (List.prefix_refl _) t1 rJ (sp.up pre) ky (ky.mG t1.t)
  |true=>exact Src.index t1.t (List.prefix_refl _) t1 rJ (sq.up pre) ky (ky.mG t1.t)
 refine xX (k.row H.t) λki hi i6 i7 i12 oL i2 vW=>bu ?_;have o1:=zu (n:=n+17) H.t (bg gU hk) (show 2<=100 by decide) λu hu=>by
  rcases mE hu with rfl|hu
  ·exact (sp.cl H.t).op (n+15)
  ·obtain rfl:=sE hu;exact (sq.cl H.t).op (n+15)
 exact aD r N (aa [.r (ip (n:=n+18) (d:=d) h hk (show 6≠14 by decide) (show 6≠15 by decide)),.r f2,.b (neN ((cV h hk (show 6≠1 by decide)) 13 (by decide))),.b (neN vW),.b (neN ((cV h hk (show 6≠1 by decide)) 0 (by decide))),.b (neN ((cV h hk (show 6≠1 by decide)) 2 (by decide))),.b (neN i2),.r o1,.r (o5 (n:=n+18) (d:=d) H.t hi i6 i7 i12 oL),.r (by exact aa [.v (aQ H.t hi),.v (cq ki)] (by kernel_rfl):ae (n+19) (66,0) [.obj 0,I i] (K aj d)=sv (I (rk ki)) (K aj d)),.b (eS (dF i6)),.r (by exact aa [.v (aQ H.t (bg gU hk)),.z 1] (by kernel_rfl):ae (n+19) (66,0) [.obj 0,I t] (K aj d)=sv (I 6) (K aj d)),.z 1,.v (aQ H.t (bg gU hk)),.z 1,.r g1]) g2 g3
def iU.index {i0:Nat}{aj:List Row}(h:au G)(gU:G<+:aj)(H:TT aj)(room:aj.length+37<=1000000)(s:iU G d t P)(k:e9 aj i x)
  (f2:ae (n+19) (184,2) [.obj 9,I i0] (K G d)=sv (I i) (K aj d)):
  ∃r N,ae (n+20) (181,0) [.obj 9,I t,I i0] (K G d)=sv (.int r) (K N d)/\Up aj N 37/\d_ N r (P.at x):=by
 have one:∀p,Src G d t p->∃r N,ae (n+20) (181,0) [.obj 9,I t,I i0] (K G d)=sv (.int r) (K N d)/\Up aj N 37/\d_ N r (p.at x):=λp s=>by exact aw (s.index h gU H (nT (nA (by decide) _) room) k f2) λr N g1 g2 g3=>aD r N g1 (g2.mono (by decide)) g3
 induction P with
 |a p=>exact one p s
 |u p q=>
  rcases s with⟨sp,sq,_⟩|⟨y,z,hk,⟨sp,sq⟩|⟨sq,sp⟩⟩
  ·refine aw (one p sp) λr N g1 g2 g3=>aD r N g1 g2 ?_;show d_ N r (b_ [p.at x,q.at x]);rw [sq,PI];exact g3
  ·exact Ei h gU H room hk (sp.up gU) (sq.up gU) k f2
  ·refine aw (Ei h gU H room hk (sq.up gU) (sp.up gU) k f2) λr N g1 g2 g3=>aD r N g1 g2 ?_;show d_ N r (b_ [p.at x,q.at x]);rw [PH];exact g3
structure DI (G:List Row)(d:Sh)(t:Nat):Prop where
 row:∃k,G[t]?=some k/\rk k≠14/\rk k≠15
 wh:∀x∈yt,t≠x
 op:∀n,ae (n+4) (164,0) [.obj 0,I t] (K G d)=sv (.bool false) (K G d)
def iU.cl (h:au G)(s:iU G d t P):DI G d t:=by
 have one:∀p,Src G d t p->DI G d t:=λp s=>by have C:=s.cl h;exact aq C.row λk hk hr=>⟨(bX k hk (λe=>hr (e▸(by decide))) (λe=>hr (e▸(by decide)))),C.wh,λn=>C.op (n+1)⟩
 have iW:∀{y z:Nat}{p q:Sp},G[t]?=some (.union [y,z])->Src G d y p->Src G d z q->DI G d t:=λhk sp sq=>by
  refine ⟨(bX _ hk (show 6≠14 by decide) (show 6≠15 by decide)),λx Y=>(cV h hk (show 6≠1 by decide)) x ?_,λn=>zu h hk (show 2<=100 by decide) λu hu=>?_⟩
  ·have:yt.all ([0,1,2,3,4,5,6,7,10,13].contains ·)=true:=by decide
   exact cE (aE this x Y)
  ·rcases mE hu with rfl|hu
   ·exact (sp.cl h).op n
   ·obtain rfl:=sE hu;exact (sq.cl h).op n
 induction P with
 |a p=>exact one p s
 |u p q=>
  rcases s with⟨sp,_⟩|⟨y,z,hk,⟨sp,sq⟩|⟨sq,sp⟩⟩
  ·exact one p sp
  ·exact iW hk sp sq
  ·exact iW hk sq sp
def Ej {y z:Nat}(h:TT G)(room:G.length+55<=1000000)(hk:G[t]?=some (.union [y,z]))(sp:Src G d y p)(sq:Src G d z q):
  ∃r N,ae (n+20) (175,0) [.obj 9,I t] (K G d)=sv (I r) (K N d)/\Up G N 55/\Val Ln N r (p.has&&&q.has):=by
 refine bc λjo=>aw (sp.keys (n:=n) h (nT (nA (nl rfl) _) room)) λr1 aj H u1 v1=>aw ((sq.up u1.pre).keys (n:=n) u1.t (u1.cJ room (nl rfl))) λr2 aB M u2 v2=>aw (xf (n:=n+10) (d:=d) (pv:=.list [I r1,I r2]) Gn Vn (u1.trans u2).t ((u1.trans u2).room (m:=1) room) rfl (λx=>sJ x r1 r2) (v1.up u2.pre) v2) λr cC h3 u3 v3=>jo ?_;have w:=cV h.t hk (show 6≠1 by decide);have pt:=nI (n:=n+18) (d:=d) h.t (dR hk).1;rw [sO h.t hk] at pt;have ei:=ma t [1,3,4,5,10] λe=>w t (by
  have:[1,3,4,5,10].all ([0,1,2,3,4,5,6,7,10,13].contains ·)=true:=by decide
  exact cE (aE this t e)) rfl
 exact aD r cC (aa [.r (ip (n:=n+18) (d:=d) h.t hk (show 6≠14 by decide) (show 6≠15 by decide)),.b (neN (w 0 (by decide))),.b (neN (w 13 (by decide))),.b (neN (w 2 (by decide))),.b ei,.r (aa [.v (aQ h.t hk),.z 1] (by kernel_rfl):ae (n+19) (66,0) [.obj 0,I t] (K G d)=sv (I 6) (K G d)),.z 1,.r pt,.r (aa [.z 2,.c (fY (xg (both:=true) H rfl) (fY (xg (parts:=.tup [I y,I z]) M rfl) (jc (by kernel_rfl)))),.r h3] (by kernel_rfl):ae (n+19) (173,0) [.obj 9,.tup [I y,I z],.bool true] (K G d)=sv (I r) (K cC d))]) ((u1.trans u2).trans u3) v3
def iU.keys (h:TT G)(room:G.length+55<=1000000)(s:iU G d t P):
  ∃r N,ae (n+20) (175,0) [.obj 9,I t] (K G d)=sv (I r) (K N d)/\Up G N 55/\Val Ln N r P.has:=by
 have one:∀p,Src G d t p->∃r N,ae (n+20) (175,0) [.obj 9,I t] (K G d)=sv (I r) (K N d)/\Up G N 55/\Val Ln N r p.has:=λp s=>by exact aw (s.keys (n:=n+2) h (nT (nA (by decide) _) room)) λr N H M h3=>aD r N H (M.mono (by decide)) h3
 induction P with
 |a p=>exact one p s
 |u p q=>
  rcases s with⟨sp,_,e⟩|⟨y,z,hk,⟨sp,sq⟩|⟨sq,sp⟩⟩
  ·refine aw (one p sp) λr N H M h3=>aD r N H M ?_;show Val Ln N r (p.has&&&q.has);rw [e,Nat.and_self];exact h3
  ·exact Ej h room hk sp sq
  ·refine aw (Ej (n:=n) h room hk sq sp) λr N H M h3=>aD r N H M ?_;show Val Ln N r (p.has&&&q.has);rw [Nat.and_comm];exact h3
end
structure iB (G:List Row)(i:Nat)(l:List (Nat×Str)):Prop where
 len:l.length<=8
 ky:∀a∈l,e9 G a.1 a.2
 form:l=[]/\i=2\/(∃x,l=[(i,x)])\/G[i]?=some (.union (l.map (·.1)))
set_option genCtorIdx true in
inductive Fu where
 |p (P:Pl)
 |w (t:Nat)
noncomputable def dA (o:Option Nat):Int:=o.elim (-1) λm=>(m:Int)
noncomputable def Fu.over:Fu->List Str->Int
 |.p P,xs=>dA (b_ (xs.map P.at))
 |.w t,_=>if t=0 then-3 else if t=13 then-4 else 0
noncomputable def Fu.has:Fu->Nat
 |.p P=>P.has
 |.w _=>255
noncomputable def eC (G:List Row)(d:Sh)(t:Nat):Fu->Prop
 |.p P=>iU G d t P
 |.w u=>t=u/\(u=0\/u=2\/u=13)
def TR (G:List Row)(r w:Int):Prop:=w=-3/\r=0\/w=-4/\r=13\/∃o,d_ G r o/\w=dA o
def eC.up {G N:List Row}{d:Sh}{t:Nat}{f:Fu}(u:G<+:N)(h:eC G d t f):eC N d t f:=by
 induction f with
 |p P=>exact iU.up u h
 |w t=>exact h
section
variable{n t i i0:Nat} {G N aj:List Row} {d:Sh} {x:Str} {P:Pl} {F:Fu} {l:List (Nat×Str)}
def iB.up (u:G<+:N)(h:iB G i l):iB N i l:=⟨h.len,λa ha=>(h.ky a ha).up u,h.form.imp id (.imp id (bg u))⟩
def iB.DJ (h:au G)(k:iB G i l):i≠13:=by
 rcases k.form with⟨_,rfl⟩|⟨x,rfl⟩|hk
 ·decide
 ·exact ((k.ky _ mS).row h).elim λ_ h=>h.2.2.2.2.2.2
 ·exact cV h hk (show 6≠1 by decide) 13 (by decide)
def N9 (h:au G)(gU:G<+:aj)(H:TT aj)(room:aj.length+297<=1000000)(s:iU G d t P)(k:iB aj i l)
  (f2:ae (n+21) (184,2) [.obj 9,I i0] (K G d)=sv (I i) (K aj d)):
  ∃r N,ae (n+22) (181,0) [.obj 9,I t,I i0] (K G d)=sv (.int r) (K N d)/\Up aj N 297/\d_ N r (b_ (l.map λa=>P.at a.2)):=by
 have C:=s.cl h;refine bW C.row λkr hk YU YV=>?_;have f1:=ip (n:=n+20) (d:=d) h hk YU YV;rcases k.form with⟨rfl,rfl⟩|⟨x,rfl⟩|hi
 ·exact ⟨2,aj,aa [.r f1,.r f2,.b (neN (C.wh 13 (by decide))),.z 1,.b (neN (C.wh 0 (by decide))),.b (neN (C.wh 2 (by decide))),.z 1,.b (neN (C.wh 0 (by decide)))],(Up.refl H).mono (lZ _),2,rfl,kV H.t⟩
 ·refine aw (s.index h gU H (nT (nA (by decide) _) room) (k.ky _ mS) f2) λr N g1 g2 g3=>?_;exact ⟨r,N,g1,g2.mono (by decide),by
   have e:∀o:Option Nat,b_ [o]=o:=λo=>by induction o with
    |none=>rfl
    |some m=>exact congrArg some (Nat.or_zero m)
   refine (e _).symm▸?_;exact g3⟩
 ·have l8:=k.len;obtain ⟨r,N,g1,g2,g3⟩:=Eh (d:=d) (b:=false) (c:=37) (sem:=λa=>P.at a.2) (l:=l) H (nT (nA (Nat.succ_le_succ (Nat.mul_le_mul_left 37 l8)) _) room) (nT l8 (nl rfl)) λa ha aB pre t1 rJ=>iU.index (n:=n) t1.t (List.prefix_refl _) t1 rJ (s.up (gU.trans pre)) ((k.ky a ha).up pre) (((k.ky a ha).up pre).mG t1.t);have o2:=zu (n:=n+19) (d:=d) H.t hi (by rw [lM];exact nT l8 (nl rfl)) λu hu=>by
   (refine bT hu λa ha uM=>?_;subst uM);exact xX ((k.ky a ha).row H.t) λki hi i6 i7 i12 oL i2 vW=>o5 H.t hi i6 i7 i12 oL
  refine aD r N ?_ (g2.mono (Nat.succ_le_succ (Nat.mul_le_mul_left 37 l8))) g3;exact aa [.r f1,.r f2,.b (neN (C.wh 13 (by decide))),.b (neN ((cV H.t hi (show 6≠1 by decide)) 13 (by decide))),.b (neN (C.wh 0 (by decide))),.b (neN (C.wh 2 (by decide))),.b (neN ((cV H.t hi (show 6≠1 by decide)) 2 (by decide))),.r ((s.up gU).cl H.t|>.op (n+17)),.r o2,.r (aa [.v (aQ H.t hi),.z 1] (by kernel_rfl):ae (n+21) (66,0) [.obj 0,I i] (K aj d)=sv (I 6) (K aj d)),.z 1,.v (aQ H.t hi),.z 1,.r (by refine List.map_map.symm▸?_;exact g1:ae (n+21) (176,0) [.obj 9,.tup ((l.map (·.1)).map I),I t,.bool false] (K aj d)=sv (.int r) (K N d))]
def wx (h:au G)(gU:G<+:aj)(H:TT aj)(room:aj.length+297<=1000000)(s:eC G d t F)(k:iB aj i l)
  (f2:ae (n+21) (184,2) [.obj 9,I i0] (K G d)=sv (I i) (K aj d)):
  ∃r N,ae (n+22) (181,0) [.obj 9,I t,I i0] (K G d)=sv (.int r) (K N d)/\Up aj N 297/\TR N r (F.over (l.map (·.2))):=by
 induction F with
 |p P=>refine aw (N9 h gU H room s k f2) λr N g1 g2 g3=>aD r N g1 g2 (.inr (.inr (af _ g3 ?_)));show dA (b_ ((l.map (·.2)).map P.at))=_;rw [List.map_map];rfl
 |w u=>
  have row:∀{u:Nat}{s:Str},dc[u]?=some (.key s)->ae (n+21) (184,2) [.obj 9,I u] (K G d)=sv (I u) (K G d):=λe=>ip h (bg h.pre e) (show 1≠14 by decide) (show 1≠15 by decide);obtain ⟨rfl,e⟩:=s;rcases e with rfl|rfl|rfl
  ·exact aD 0 aj (aa [.r (row (u:=0) rfl),.r f2,.z 1,.b (neN (k.DJ H.t)),.z 2]) ((Up.refl H).mono (lZ 297)) (.inl ⟨rfl,rfl⟩)
  ·exact aD 2 aj (aa [.r (row (u:=2) rfl),.r f2,.z 1,.b (neN (k.DJ H.t)),.z 3]) ((Up.refl H).mono (lZ 297)) (.inr (.inr (af (some 0) (af 2 rfl (kV H.t)) rfl)))
  ·exact aD 13 aj (aa [.r (row (u:=13) rfl),.r f2,.z 1]) ((Up.refl H).mono (lZ 297)) (.inr (.inl ⟨rfl,rfl⟩))
def Fh (h:TT G)(room:G.length+55<=1000000)(s:eC G d t F):
  ∃r N,ae (n+20) (175,0) [.obj 9,I t] (K G d)=sv (I r) (K N d)/\Up G N 55/\Val Ln N r F.has:=by
 induction F with
 |p P=>exact iU.keys h room s
 |w u=>
  have row:∀{u:Nat}{s:Str},dc[u]?=some (.key s)->ae (n+19) (184,2) [.obj 9,I u] (K G d)=sv (I u) (K G d):=λe=>ip h.t (bg h.t.pre e) (show 1≠14 by decide) (show 1≠15 by decide);(have xP:=(DE h.t);have v6:=xP.1;have v7:=xP.2);refine aw (wu (n:=n+16) (d:=d) (pv:=.list [I 6,I 7]) (l:=[(6,127),(7,128)]) h (nT (nA (show 1<=55 by decide) _) room) (λx Y=>by
   rcases mE Y with rfl|Y
   ·exact v6
   ·obtain rfl:=sE Y;exact v7) rfl) λr N g1 g2 g3=>?_
  obtain ⟨rfl,e⟩:=s;rcases e with rfl|rfl|rfl
  ·exact aD r N (aa [.r (row (u:=0) rfl),.z 1,.r g1]) (g2.mono (by decide)) g3
  ·exact aD r N (aa [.r (row (u:=2) rfl),.z 3,.r g1]) (g2.mono (by decide)) g3
  ·exact aD r N (aa [.r (row (u:=13) rfl),.z 2,.r g1]) (g2.mono (by decide)) g3
def Ek {raw:Nat}(h:TT G)(room:G.length+55<=1000000)(s:eC G d t F)(hr:G[raw]?=some (.jj t)):
  ∃r N,ae (n+22) (184,2) [.obj 9,I raw] (K G d)=sv (I r) (K N d)/\Up G N 55/\Val Ln N r F.has:=by
 exact aw (Fh (n:=n) h room s) λr N g1 g2 g3=>aD r N (aa [.v (aQ h.t hr),.z 2,.r (by exact aa [.z 3,.r g1] (by kernel_rfl):ae (n+21) (182,0) [.obj 9,rv (.jj t)] (K G d)=sv (I r) (K N d))]) g2 g3
def LH (h:TT G){r:Int}{c:Nat}{w:Int}(hc:ae n (181,0) [.obj 9,I t,I i] (K G d)=sv (.int r) (K N d))(u:Up G N c)(tr:TR N r w):
  ∃r',ae (n+2) (184,3) [.obj 9,rv (.index t i)] (K G d)=sv (.int r') (K N d)/\TR N r' (if w=-1 then-4 else w):=by
 have go:∀{b:Bool}{r':Int},aN .Lt (.int r) (.val (.int 0))=some b->r'=(if b=true then 13 else r)->ae (n+2) (184,3) [.obj 9,rv (.index t i)] (K G d)=sv (.int r') (K N d):=λ{b r'} e e'=>by
  have w:ae (n+1) (182,0) [.obj 9,rv (.index t i)] (K G d)=sv (.int r') (K N d):=by
   induction b with
   |true=>subst e';exact aa [.z 6,.r hc,.b e]
   |false=>subst e';exact aa [.z 6,.r hc,.b e]
  exact aa [.r w]
 rcases tr with⟨rfl,rfl⟩|⟨rfl,rfl⟩|⟨o,ho,rfl⟩
 ·exact af 0 (go (b:=false) rfl rfl) (.inl ⟨rfl,rfl⟩)
 ·exact af 13 (go (b:=false) rfl rfl) (.inr (.inl ⟨rfl,rfl⟩))
 ·induction o with
  |none=>obtain rfl:=ho;exact af 13 (go (b:=true) rfl rfl) (.inr (.inl ⟨rfl,rfl⟩))
  |some m=>(refine aq ho λt' B7 v=>?_;subst B7);refine af t' (go (lO t') rfl) (.inr (.inr (af (some m) (af t' rfl v) (if_neg ?_))));show¬((m:Int)=-1);exact λe=>uG e.symm
def xh {r w:Int}(h:au G)(tr:TR G r w):ae (n+1) (196,0) [.obj 0,.int r,.dict (fV Lv)] (K G d)=sv (.int w) (K G d):=by
 rcases tr with⟨rfl,rfl⟩|⟨rfl,rfl⟩|⟨o,ho,rfl⟩
 ·exact aa [.z 3]
 ·exact aa [.z 4]
 ·induction o with
  |none=>obtain rfl:=ho;exact aa [.z 2]
  |some m=>(refine aq ho λt' ud v=>?_;subst ud);exact xd Gv h v
end
noncomputable def fv (a:Fi):V:=.tup [I a.m,.bool a.opt,.bool a.cP]
noncomputable def cw (o:Option Nat):V:=.int (dA o)
noncomputable def hv (h:Hf):V:=.dict (sd fv h)
noncomputable def aV:Sp->V
 |.n=>.tup [.str "w",I 1]
 |.o O=>.tup [.str "o",hv O.f,cw O.s,cw O.c]
 |.l m=>.tup [.str "l",I m]
 |.t p K=>.tup [.str "t",.list ((bY p K).map bV)]
structure GH (h:Hf):Prop where
 nd:(h.map (·.1)).Nodup
 nm:∀e∈h,e.1∈c7
def GH.ok {h:Hf}(g:GH h):∀e∈h,cO e.1:=λe he=>eM (g.nm e he)
def GH.len {h:Hf}(g:GH h):h.length<=3:=by
 have:=Az g.nd λx Y=>by(refine bT Y λe he bu=>?_;subst bu);exact g.nm e he
 rw [lM] at this;exact this
def GH.put {h:Hf}(g:GH h){x:Str}(Y:x∈c7)(a:Fi):GH (dQ x a h):=⟨EF g.nd,λe he=>(F0 he).elim (λq=>by refine q.symm▸?_;exact Y) (g.nm e)⟩
inductive cL:V->Fu->Prop
 |w (t:Nat) (h:t=1\/t=3\/t=4\/t=5):cL (.tup [.str "w",I t]) (.p (.a .n))
 |e (t:Nat) (h:t=10\/t=11):cL (.tup [.str "w",I t]) (.p (.a (.o ⟨[],none,none⟩)))
 |s (t:Nat) (h:t=0\/t=2\/t=13):cL (.tup [.str "w",I t]) (.w t)
 |o (O:Ob) (g:GH O.f):cL (aV (.o O)) (.p (.a (.o O)))
 |l (m:Nat):cL (aV (.l m)) (.p (.a (.l m)))
 |t (p:List Nat) (K:Nat->Nat) (h:p∈eH):cL (aV (.t p K)) (.p (.a (.t p K)))
 |u (p q:Sp) (hp:cL (aV p) (.p (.a p))) (hq:cL (aV q) (.p (.a q))):cL (.tup [.str "u",.list [aV p,aV q]]) (.p (.u p q))
noncomputable def i9:List Str:=.ofString ""::.ofString "#"::dH
noncomputable def vo (K:Nat->Nat):Int->List (Nat×Nat)->Int
 |g,[]=>g
 |g,x::l=>vo K (if x.2=1 then Builtin.bitOr (Builtin.bitOr g (K x.1:Nat)) 64 else Builtin.bitOr g (K x.1:Nat)) l
noncomputable def C7 (p:List Nat)(K:Nat->Nat)(x:Str):Int:=if x=.ofString "#" then vo K 0 (gw p) else if x=cu then(ow p:Nat) else if iA x<tp p then Builtin.bitOr (K (iA x):Nat) ((64*p.getD (iA x) 0:Nat):Int) else if 2∈p then vo K 0 ((gw p).drop (tp p)) else-1
noncomputable def y7:List Str:=[.ofString "#",cu,.ofString "0",.ofString "1",.ofString "2",.ofString "7"]
def PJ (n:Nat)(K:Nat->Nat)(σ:St):∀p∈eH,∀x∈y7,ae (n+1) (202,0) [.list ((bY p K).map bV),.str x] σ=sv (.int (C7 p K x)) σ:=
 λp hp=>by
 refine fG ?_;revert p;apply fG;kernel_rfl
def GJ (K:Nat->Nat):∀(l:List (Nat×Nat))(g:Nat),vo K (g:Int) l=((g|||bC (l.map λx=>wide (decide (x.2=1)) (K x.1)):Nat):Int):=by
 intro bz
 induction bz with
 |nil=>intro aJ;rw [show bC (([]:List (Nat×Nat)).map λx=>wide (decide (x.2=1)) (K x.1))=0 from rfl,Nat.or_zero];rfl
 |cons aU aW ak=>
  intro aJ;have e:(if aU.2=1 then Builtin.bitOr (Builtin.bitOr (aJ:Int) (K aU.1:Nat)) 64 else Builtin.bitOr (aJ:Int) (K aU.1:Nat))=((aJ|||wide (decide (aU.2=1)) (K aU.1):Nat):Int):=by
   by_cases q:aU.2=1
   ·rw [if_pos q,sG,show(64)=((64:Nat):Int) from rfl,sG,dT q,Nat.or_assoc];rfl
   ·rw [if_neg q,sG,dF q];rfl
  show vo K _ aW=_;rw [e,ak,Nat.or_assoc];rfl
def GK {p:List Nat}(hp:p∈eH):2∈p↔tp p<p.length:=by
 have:eH.all (λp=>p.contains 2==decide (tp p<p.length))=true:=by kernel_rfl
 have:=bE (aE this p hp);rw [<-List.contains_iff_mem,this,decide_eq_true_eq]
def Ru {p:List Nat}{K:Nat->Nat}{x:Str}(hp:p∈eH)(Y:x∈y7):C7 p K x=dA (lg p K x):=by
 delta C7 lg;by_cases H:x=.ofString "#"
 ·rw [if_pos H,if_pos H];refine (GJ K _ 0).trans ?_;rw [Nat.zero_or];rfl
 ·rw [if_neg H,if_neg H];by_cases M:x=cu
  ·rw [if_pos M,if_pos M];rfl
  ·have hd:fE x=true:=fG (f:=fE) (g:=λ_=>true) (by kernel_rfl) x ((mE ((mE Y).resolve_left H)).resolve_left M);rw [if_neg M,if_neg M,if_pos hd];by_cases h3:iA x<tp p
   ·rw [if_pos h3,if_pos h3,sG];have m2:p.getD (iA x) 0<2:=by
     have:eH.all (λp=>(List.range (tp p)).all λj=>decide (p.getD j 0<2))=true:=by kernel_rfl
     exact cS (aE (aE this p hp) _ (rI h3))
    have:p.getD (iA x) 0=0\/p.getD (iA x) 0=1:=(JB ‹_›);refine this.elim (λe=>?_) (λe=>?_)<;>refine e.symm▸?_
    ·show((_|||0:Nat):Int)=_;rw [Nat.or_zero];rfl
    ·rfl
   ·rw [if_neg h3,if_neg h3];delta rK;by_cases h4:2∈p
    ·rw [if_pos h4,if_pos ((GK hp).mp h4)];refine (GJ K _ 0).trans ?_;rw [Nat.zero_or];rfl
    ·rw [if_neg h4,if_neg λh=>h4 ((GK hp).mpr h)];rfl
section
variable{n:Nat} {σ:St} {v:V} {F:Fu} {x:Str} {O:Ob}
def tV {h:Hf}{a:Fi}(g:GH h)(Y:cO x)(ha:h.lookup x=some a):cz (.val (hv h)) (.str x)=some (fv a):=by show(dh (sd fv h) (.str x)).bind id=_;refine (xB Y g.ok).symm▸ha.symm▸?_;rfl
def N_ (Y:x∈c7):cz (.val (.dict (fV Ln))) (.tup [.int 3,.str x,.int 0])=some (I (eO x)):=by
 have key:∀{j:Nat},Ln.rows[j]?=some (.str x 0)->cz (.val (.dict (fV Ln))) (.tup [.int 3,.str x,.int 0])=some (I (Ln.bits j)):=λhj=>by show(dh (fV Ln) (rv (.str x 0))).bind id=_;rw [tU Gn hj];rfl
 simp only [c7,List.mem_cons,List.not_mem_nil,or_false] at Y;rcases Y with rfl|rfl|rfl
 ·exact key (j:=2) rfl
 ·exact key (j:=0) rfl
 ·exact key (j:=1) rfl
noncomputable def y8 (v:V)(m:Nat)(ln:LV)(σ:St):X:=⟨ez (201,0),[nv "plain" (.val v),nv "early" .unset,nv "mask" (.val (I m)),(.ofString "name",ln)],σ⟩
def PK (g:GH O.f):∀{l:Hf}{m:Nat}{ln:LV},(∀e∈l,e∈O.f)->∃kM,∀Z,cF n 11 (201,0) 0 (l.map λe=>.str e.1) (y8 (aV (.o O)) m ln σ) Z=Z .next (y8 (aV (.o O)) (m|||bC (l.map λe=>fF (some e.2) e.1)) kM σ):=by
 intro z_
 induction z_ with
 |nil=>intro m ln _;exact ⟨ln,by rw [show bC (([]:Hf).map λe=>fF (some e.2) e.1)=0 from rfl,Nat.or_zero];exact dk (by kernel_rfl)⟩
 |cons e l ak=>
  intro m ln h;have sb:=tV g (eM (g.nm e (h e mS))) (nJ g.nd (h e mS));have ht:∃m',m'=m|||fF (some e.2) e.1/\∀Z,aZ n 11 (201,0) 0 (.str e.1) (y8 (aV (.o O)) m ln σ) Z=Z .next (y8 (aV (.o O)) m' (.val (.str e.1)) σ):=by
   unfold fv at sb;generalize q:e.2.cP=z_;induction z_ with
   |true=>rw [q] at sb;exact af m (by show m=m|||cond e.2.cP 0 (eO e.1);rw [q];exact (Nat.or_zero m).symm) (aX [.z 1,.v sb,.z 1])
   |false=>rw [q] at sb;exact af (m|||eO e.1) (by show _=m|||cond e.2.cP 0 (eO e.1);rw [q];rfl) (aX [.z 1,.v sb,.z 1,.v (N_ (g.nm e (h e mS))),.l (qq m (eO e.1))])
  (refine aq ht λm' dn ht=>?_;subst dn);obtain ⟨kM,hl⟩:=ak (m:=m|||fF (some e.2) e.1) λy hy=>h y (aT _ hy);rw [Nat.or_assoc] at hl;exact ⟨kM,cD ht hl⟩
def LI (g:GH O.f):bC (O.f.map λe=>fF (some e.2) e.1)=ib (O.f.lookup ·):=by
 refine zI (λm hm h0=>?_) λm hm h0=>?_
 ·(refine bT hm λe he gP=>?_;subst gP);refine kE ⟨e.1,g.nm e he,?_⟩;show fF (O.f.lookup e.1) e.1=_;exact (nJ g.nd he).symm▸rfl
 ·(refine bT hm λx Y jt=>?_;subst jt);generalize e:O.f.lookup x=z_;induction z_ with
  |none=>exact absurd (by show fF (O.f.lookup x) x=0;refine e.symm▸?_;rfl) h0
  |some a=>exact kE ⟨(x,a),jd e,by show _=fF (O.f.lookup x) x;exact e.symm▸rfl⟩
def Rv (F:Str->Option Fi):ib F|||255=255:=by
 have p:∀x o,fF o x=0\/fF o x=eO x:=λx o=>by
  induction o with
  |none=>exact .inl rfl
  |some a=>show cond a.cP 0 (eO x)=0\/cond a.cP 0 (eO x)=_;cases a.cP<;>simp
 show(fF (F "0") "0"|||(fF (F "p") "p"|||(fF (F "q") "q"|||0)))|||255=255;refine (p "0" (F "0")).elim (λa=>?_) (λa=>?_)<;>refine (p "p" (F "p")).elim (λb=>?_) (λb=>?_)<;>rcases p "q" (F "q") with c|c<;>exact a.symm▸b.symm▸c.symm▸rfl<;>kernel_rfl
def DK (o:Option Nat):aN .GtE (cw o) (.val (.int 0))=some o.isSome:=by
 refine (YK (dA o) 0).trans (congrArg some ?_)
 induction o with
 |none=>exact dF (by decide)
 |some m=>exact dT (Int.natCast_nonneg m)
def tW {p:Sp}(h:cL (aV p) (.p (.a p))):ae (n+1) (201,0) [aV p] σ=sv (I p.has) σ:=by
 generalize hV:aV p=v at h;generalize hf:Fu.p (.a p)=F at h
 induction h with
 |w t h=>cases hf;rcases h with rfl|rfl|rfl|rfl<;>kernel_rfl
 |e t h=>cases hf;exact nomatch hV
 |s t h=>cases hf
 |u p q _ _=>exact nomatch hf
 |l m=>cases hf;kernel_rfl
 |t p K h=>cases hf;clear hV;revert p;apply fG;kernel_rfl
 |o O g=>
  cases hf
  obtain ⟨ln,hl⟩:=PK (n:=n) (σ:=σ) g (m:=0) (ln:=.unset) λe h=>h;rw [Nat.zero_or,LI g] at hl;have gs:=DK O.s;have gc:=DK O.c;show _=some (LV.val (I (ib (O.f.lookup ·)|||(cond O.s.isSome 255 0|||(cond O.c.isSome 128 0|||0)))),σ);generalize S:O.s.isSome=z_;induction z_ with
  |true=>
   replace gs:=S▸gs;rw [show ib (O.f.lookup ·)|||(cond true 255 0|||(cond O.c.isSome 128 0|||0))=255 from by
    rw [<-Nat.or_assoc];show(ib (O.f.lookup ·)|||255)|||_=_;rw [Rv]
    cases O.c.isSome<;>rfl]
   exact aa [.z 9,.s (congrArg some (List.map_map):bA (hv O.f)=some (O.f.map λe=>.str e.1)),.f hl,.z 1,.b gs]
  |false=>
   rw [S] at gs;generalize ec:O.c.isSome=z_;induction z_ with
   |true=>rw [ec] at gc;exact aa [.z 9,.s (congrArg some (List.map_map):bA (hv O.f)=some (O.f.map λe=>.str e.1)),.f hl,.z 1,.b gs,.z 1,.b gc,.l (qq (ib (O.f.lookup ·)) 128)]
   |false=>rw [ec] at gc;rw [show ib (O.f.lookup ·)|||(cond false 255 0|||(cond false 128 0|||0))=ib (O.f.lookup ·) from Nat.or_zero _];exact aa [.z 9,.s (congrArg some (List.map_map):bA (hv O.f)=some (O.f.map λe=>.str e.1)),.f hl,.z 1,.b gs,.z 1,.b gc]
end
section
variable{n:Nat} {σ:St} {v:V} {F:Fu} {x:Str} {O:Ob}
def Bi (Y:x∈i9):cO x:=by revert x;apply fG;kernel_rfl
def SH (Y:x∈i9):aN .In (.str x) (.val (.tup [.str "0",.str "1",.str "2",.str "7",.str "#"]))=some (ig x):=by revert x;apply fG;kernel_rfl
def HB (Y:x∈i9):aN .Eq (.str x) (.val (.str cu))=some (decide (x=cu)):=xW (Bi Y) (rt (by decide))
def SI (Y:x∈i9):aN .NotEq (.str x) (.val (.str cu))=some (!decide (x=cu)):=by show(kj (.str x) (.str cu)).map not=_;rw [show kj (.str x) (.str cu)=some (decide (x=cu)) from HB Y];rfl
def GL (Y:x∈i9)(h:ig x=true\/x=cu):x∈y7:=cE (fG (l:=i9.filter λx=>ig x||decide (x=cu)) (f:=y7.contains) (g:=λ_=>true) (by kernel_rfl) x (List.mem_filter.mpr ⟨Y,(Bool.or_eq_true _ _).mpr (h.imp_right dT)⟩))
def Oa (hd:ig x=false):x≠.ofString "#"/\fE x=false:=by delta ig at hd;rw [Bool.or_eq_false_iff] at hd;exact ⟨λe=>by replace hd:=e▸hd;exact absurd hd.2 (by decide),hd.1⟩
def MO {p:List Nat}{K:Nat->Nat}(hd:ig x=false)(hl:x≠cu):lg p K x=none:=by have:=Oa hd;delta lg;rw [if_neg this.1,if_neg hl,if_neg (by refine this.2.symm▸?_;exact gi)]
def DL (m:Nat):fy .BitOr (I m) (.int 64)=some (.val (I (m|||64))):=qq m 64
def uD {p:Sp}(h:cL (aV p) (.p (.a p)))(Y:x∈i9):ae (n+2) (203,0) [aV p,.str x] σ=sv (.int (dA (p.at x))) σ:=by
 have dg:=SH Y;have li:=HB Y;have ln:=SI Y;generalize hV:aV p=v at h;generalize hf:Fu.p (.a p)=F at h
 induction h with
 |w t h=>cases hf;rcases h with rfl|rfl|rfl|rfl<;>kernel_rfl
 |e t h=>cases hf;exact nomatch hV
 |s t h=>cases hf
 |u p q _ _=>exact nomatch hf
 |l m=>
  cases hf
  show _=some (LV.val (.int (dA (n8 m x))),σ);delta n8;generalize hd:ig x=z_;induction z_ with
  |true=>
   rw [hd] at dg;by_cases hl:x=cu
   ·rw [hl] at hd;exact absurd hd (by decide)
   ·rw [dF hl] at li;rw [if_neg hl];exact aa [.z 4,.b dg,.z 4,.b li,.z 1]
  |false=>
   rw [hd] at dg;by_cases hl:x=cu
   ·rw [dT hl] at li ln;rw [if_pos hl];exact aa [.z 4,.b dg,.z 2,.b ln,.z 2,.b li]
   ·rw [dF hl] at ln;rw [if_neg hl];exact aa [.z 4,.b dg,.z 2,.b ln,.z 1]
 |t p K h=>
  cases hf
  show _=some (LV.val (.int (dA (lg p K x))),σ);by_cases hh:ig x=true\/x=cu
  ·have it:=PJ n K σ p h x (GL Y hh);rw [Ru h (GL Y hh)] at it;generalize hd:ig x=z_;induction z_ with
   |true=>rw [hd] at dg;exact aa [.z 4,.b dg,.z 5,.r it]
   |false=>rw [hd] at dg hh;rw [dT (hh.resolve_left gi)] at ln;exact aa [.z 4,.b dg,.z 2,.b ln,.z 3,.r it]
  ·have hd:=fI λe=>hh (.inl e);have hl:x≠cu:=λe=>hh (.inr e);rw [hd] at dg;rw [dF hl] at ln;rw [MO hd hl];exact aa [.z 4,.b dg,.z 2,.b ln,.z 1]
 |o O g=>
  cases hf
  show _=some (LV.val (.int (dA (O.at x))),σ);have hi:aN .In (.str x) (.val (hv O.f))=some (O.f.lookup x).isSome:=Cb g.ok (Bi Y);delta Ob.at;generalize e:O.f.lookup x=z_;induction z_ with
  |some a=>
   replace hi:=e▸hi;have sb:=tV g (Bi Y) e;unfold fv at sb;show _=some (LV.val (I (wide a.opt a.m)),σ);generalize ho:a.opt=z_;induction z_ with
   |true=>rw [ho] at sb;show _=some (LV.val (I (a.m|||64)),σ);exact aa [.z 4,.b dg,.z 3,.b hi,.z 1,.v sb,.l (DL a.m)]
   |false=>rw [ho] at sb;show _=some (LV.val (I a.m),σ);exact aa [.z 4,.b dg,.z 3,.b hi,.z 1,.v sb]
  |none=>
   rw [e] at hi;have gc:=DK O.c;show _=some (LV.val (cw (jZ O.s O.c (ig x))),σ);delta jZ;generalize hd:ig x=z_;induction z_ with
   |true=>
    rw [hd] at dg;generalize ec:O.c.isSome=z_;induction z_ with
    |true=>rw [ec] at gc;rw [if_pos ⟨rfl,rfl⟩];exact aa [.z 4,.b dg,.z 3,.b hi,.z 1,.b gc,.z 1]
    |false=>rw [ec] at gc;rw [if_neg λh=>gi h.2];exact aa [.z 4,.b dg,.z 3,.b hi,.z 1,.b gc,.z 1]
   |false=>replace dg:=hd▸dg;rw [if_neg λh=>gi h.1];exact aa [.z 4,.b dg,.z 3,.b hi,.z 1]
def p0 (a b:V):cz (.val (.list [a,b])) (.int 0)=some a:=rfl
def p7 (a b:V):cz (.val (.list [a,b])) (.int 1)=some b:=rfl
def VW {P:Pl}(h:cL v (.p P))(Y:x∈i9):ae (n+3) (203,0) [v,.str x] σ=sv (.int (dA (P.at x))) σ:=by
 cases h with
 |w t h=>rcases h with rfl|rfl|rfl|rfl<;>kernel_rfl
 |e t h=>
  have e:Ob.at ⟨[],none,none⟩ x=none:=by show jZ none none _=none;delta jZ;split<;>rfl
  show _=some (LV.val (.int (dA (Ob.at ⟨[],none,none⟩ x))),σ);refine e.symm▸?_;rcases h with rfl|rfl<;>kernel_rfl
 |l m=>exact uD (.l m) Y
 |t p K h=>exact uD (.t p K h) Y
 |o O g=>exact uD (.o O g) Y
 |u p q hp hq=>
  have H:=uD (n:=n) (σ:=σ) hp Y;have M:=uD (n:=n) (σ:=σ) hq Y;show _=some (LV.val (.int (dA (b_ [p.at x,q.at x]))),σ);generalize e1:p.at x=z_;induction z_ with
  |none=>rw [e1] at H;have l1:aN .Lt (.int (dA none)) (.val (.int 0))=some true:=rfl;exact aa [.z 5,.v (p0 (aV p) (aV q)),.r H,.z 1,.v (p7 (aV p) (aV q)),.r M,.b l1,.z 1]
  |some a=>
   replace H:=e1▸H;generalize e2:q.at x=z_;induction z_ with
   |none=>replace M:=e2▸M;have l2:aN .Lt (.int (dA none)) (.val (.int 0))=some true:=rfl;exact aa [.z 5,.v (p0 (aV p) (aV q)),.r H,.z 1,.v (p7 (aV p) (aV q)),.r M,.b (lO a:aN .Lt (.int (dA (some a))) (.val (.int 0))=some false),.b l2,.z 1]
   |some b=>rw [e2] at M;rw [show b_ [some a,some b]=some (a|||b) from congrArg some (show a|||(b|||0)=_ by rw [Nat.or_zero])];show _=some (LV.val (I (a|||b)),σ);have ob:fy .BitOr (.int (dA (some a))) (.int (dA (some b)))=some (.val (I (a|||b))):=qq a b;exact aa [.z 5,.v (p0 (aV p) (aV q)),.r H,.z 1,.v (p7 (aV p) (aV q)),.r M,.b (lO a:aN .Lt (.int (dA (some a))) (.val (.int 0))=some false),.b (lO b:aN .Lt (.int (dA (some b))) (.val (.int 0))=some false),.l ob]
def SJ {P:Pl}(h:cL v (.p P)):ae (n+2) (201,0) [v] σ=sv (I P.has) σ:=by
 cases h with
 |w t h=>rcases h with rfl|rfl|rfl|rfl<;>kernel_rfl
 |e t h=>rcases h with rfl|rfl<;>kernel_rfl
 |l m=>exact tW (.l m)
 |t p K h=>exact tW (.t p K h)
 |o O g=>exact tW (.o O g)
 |u p q hp hq=>exact aa [.z 5,.v (p0 (aV p) (aV q)),.r (tW (n:=n) (σ:=σ) hp),.z 1,.v (p7 (aV p) (aV q)),.r (tW (n:=n) (σ:=σ) hq),.l (eA p.has q.has)]
def PL (h:cL v F):ae (n+2) (201,0) [v] σ=sv (I F.has) σ:=by
 induction F with
 |p P=>exact SJ h
 |w t=>cases h with
  |s t h=>rcases h with rfl|rfl|rfl<;>kernel_rfl
noncomputable def sg (v G:V)(g:Nat)(lk lo:LV)(σ:St):X:=⟨ez (204,0),[nv "plain" (.val v),nv "keys" (.val G),nv "got" (.val (I g)),(.ofString "key",lk),(.ofString "one",lo)],σ⟩
def Fj {kv':V}{at':Str->Option Nat}:∀{xs:List Str}{g:Nat}{lk lo:LV},(∀x∈xs,ae n (203,0) [v,.str x] σ=sv (.int (dA (at' x))) σ)->
  ∃fl g' vY sx,(∀Z,cF n 11 (204,0) 0 (xs.map .str) (sg v kv' g lk lo σ) Z=Z fl (sg v kv' g' vY sx σ))/\(b_ (xs.map at')=none/\fl=.ret (.val (.int (-1)))\/fl=.next/\∃m,b_ (xs.map at')=some m/\g'=g|||m)
 |[],g,lk,lo,_=>pF .next g lk lo (dk (by kernel_rfl)) (.inr ⟨rfl,0,rfl,(Nat.or_zero g).symm⟩)
 |x::xs,g,lk,lo,h=>by
  have H:=h x mS;show∃fl g' vY sx,_/\(b_ (at' x::xs.map at')=none/\_\/_/\∃m,b_ (at' x::xs.map at')=some m/\_);generalize e:at' x=z_;induction z_ with
  |none=>replace H:=e▸H;have l1:aN .Lt (.int (dA none)) (.val (.int 0))=some true:=rfl;exact pF _ _ _ _ (j0 (by kernel_rfl) (aX [.r H,.b l1,.z 1]:∀Z,aZ n 11 (204,0) 0 (.str x) (sg v kv' g lk lo σ) Z=Z (.ret (.val (.int (-1)))) (sg v kv' g (.val (.str x)) (.val (.int (-1))) σ))) (.inl ⟨rfl,rfl⟩)
  |some m=>rw [e] at H;refine n_ (Fj (kv':=kv') (xs:=xs) (g:=g|||m) (lk:=.val (.str x)) (lo:=.val (I m)) λy hy=>h y (aT _ hy)) λfl g' vY sx a b=>?_;refine pF fl g' vY sx (cD (aX [.r H,.b (lO m:aN .Lt (.int (dA (some m))) (.val (.int 0))=some false),.l (qq g m:fy .BitOr (I g) (.int (dA (some m)))=some (.val (I (g|||m))))]:∀Z,aZ n 11 (204,0) 0 (.str x) (sg v kv' g lk lo σ) Z=Z .next (sg v kv' (g|||m) (.val (.str x)) (.val (I m)) σ)) a) (b.imp (λh=>⟨by show(b_ (xs.map at')).map _=none;refine h.1.symm▸?_;rfl,h.2⟩) λh=>⟨h.1,?_⟩);obtain ⟨_,m',e1,e2⟩:=h;exact ⟨m|||m',by show(b_ (xs.map at')).map _=_;refine e1.symm▸?_;rfl,by rw [e2,Nat.or_assoc]⟩
def GN {xs:List Str}{at':Str->Option Nat}(h:∀x∈xs,ae n (203,0) [v,.str x] σ=sv (.int (dA (at' x))) σ)
  (hv:(∃s r,v=.tup (.str s::r)/\r.length<=5/\aN .Eq (.str s) (.val (.str "w"))=some false)\/∃t,v=.tup [.str "w",I t]/\t∉[0,13]):
  ae (n+1) (204,0) [v,.list (xs.map .str)] σ=sv (.int (dA (b_ (xs.map at')))) σ:=by
 refine n_ (Fj (kv':=.list (xs.map .str)) (g:=0) (lk:=.unset) (lo:=.unset) h) λfl g' vY sx a b=>?_;rcases hv with⟨s,r,rfl,hr,e2⟩|⟨t,rfl,ht⟩
 ·have e1:cz (.val (.tup (.str s::r))) (.int 0)=some (.str s):=nq rfl (by rw [List.length_cons];exact Nat.lt_of_le_of_lt ‹_› (nl rfl));rcases b with⟨e,rfl⟩|⟨rfl,m,e,rfl⟩<;>rw [e]
  ·show _=some (LV.val (.int (-1)),σ);exact aa [.v e1,.b e2,.z 1,.f a]
  ·rw [Nat.zero_or] at a;exact aa [.v e1,.b e2,.z 1,.f a]
 ·rcases b with⟨e,rfl⟩|⟨rfl,m,e,rfl⟩<;>rw [e]
  ·show _=some (LV.val (.int (-1)),σ);exact aa [.z 3,.b (ma t [0,13] ht:aN .In (I t) (.val (.tup [.int 0,.int 13]))=some false),.z 1,.f a]
  ·rw [Nat.zero_or] at a;exact aa [.z 3,.b (ma t [0,13] ht:aN .In (I t) (.val (.tup [.int 0,.int 13]))=some false),.z 1,.f a]
def AF {xs:List Str}(h:cL v F)(Y:∀x∈xs,x∈i9):ae (n+4) (204,0) [v,.list (xs.map .str)] σ=sv (.int (F.over xs)) σ:=by
 have pl:∀P,F=.p P->cL v (.p P)->(∃s r,v=.tup (.str s::r)/\r.length<=5/\aN .Eq (.str s) (.val (.str "w"))=some false)\/(∃t,v=.tup [.str "w",I t]/\t∉[0,13])->ae (n+4) (204,0) [v,.list (xs.map .str)] σ=sv (.int (F.over xs)) σ:=λP e h hv=>by subst e;exact GN (λx h'=>VW h (Y x h')) hv
 induction h with
 |w t h=>exact pl _ rfl (.w t h) (.inr ⟨t,rfl,by rcases h with rfl|rfl|rfl|rfl<;>decide⟩)
 |e t h=>exact pl _ rfl (.e t h) (.inr ⟨t,rfl,by rcases h with rfl|rfl<;>decide⟩)
 |o O g=>exact pl _ rfl (.o O g) (.inl (aD "o" _ rfl (show 3<=5 by decide) (by kernel_rfl)))
 |l m=>exact pl _ rfl (.l m) (.inl (aD "l" _ rfl (show 1<=5 by decide) (by kernel_rfl)))
 |t p K h=>exact pl _ rfl (.t p K h) (.inl (aD "t" _ rfl (show 1<=5 by decide) (by kernel_rfl)))
 |u p q hp hq=>exact pl _ rfl (.u p q hp hq) (.inl (aD "u" _ rfl (show 1<=5 by decide) (by kernel_rfl)))
 |s t h=>
  rcases h with rfl|rfl|rfl
  ·kernel_rfl
  ·have:=GN (n:=n+3) (σ:=σ) (xs:=xs) (at':=λ_=>some 0) (λx _=>by kernel_rfl) (.inr ⟨2,rfl,by decide⟩);refine this.symm▸?_;have e:∀xs:List Str,b_ (xs.map λ_=>some 0)=some 0:=λxs=>by
    induction xs with
    |nil=>rfl
    |cons x xs ih=>show(b_ (xs.map λ_=>some 0)).map _=_;refine ih.symm▸?_;rfl
   rw [e];rfl
  ·kernel_rfl
end
section
variable{n:Nat} {G:List Row} {d:Sh} {x:Str}
noncomputable def kO:List Str:=[.ofString "p",.ofString "q",.ofString "0",.ofString "@0",.ofString "",.ofString "#",.ofString "length",.ofString "@1",.ofString "1",.ofString "@7",.ofString "2",.ofString "!"]
noncomputable def qk (x:Str):List Str:=if x=.ofString "!" then[] else if x=.ofString "@0" then[.ofString "0"] else if x=.ofString "@1" then[.ofString "1"] else if x=.ofString "@7" then[.ofString "7"] else[x]
def HC {f:Nat}(h:TT G)(room:G.length<1000000)(Y:x∈kO):
  ∃i N l,ae (n+2) (205,0) [.obj 0,.str x,I f] (K G d)=sv (I i) (K N d)/\Up G N 1/\iB N i l/\l.map (·.2)=qk x:=by
 have u0:=(Up.refl h).mono (lZ 1);have one:∀{i:Nat}{y:Str}{N:List Row},e9 N i y->iB N i [(i,y)]:=λk=>⟨(nl rfl:1<=8),λa ha=>by obtain rfl:=sE ha;exact k,.inr (.inl ⟨_,rfl⟩)⟩;have txt:∀{y:Str},y∈dH->qk y=[y]->(∀i N,ae (n+1) (64,3) [.obj 0,rv (.str y f)] (K G d)=sv (I i) (K N d)->ae (n+2) (205,0) [.obj 0,.str y,I f] (K G d)=sv (I i) (K N d))->
   ∃i N l,ae (n+2) (205,0) [.obj 0,.str y,I f] (K G d)=sv (I i) (K N d)/\Up G N 1/\iB N i l/\l.map (·.2)=qk y:=λhy hq go=>by
  exact aw (AB (n:=n) (d:=d) h room (rt hy) f) λi N H M h3=>fB i N _ (go i N H) M (one (.str f h3 hy)) hq.symm
 have num:∀{y:Str}{m:Nat},m<8->.ofString (toString (m:Int))∈dH->qk y=[.ofString (toString (m:Int))]->(∀i N,ae (n+1) (64,3) [.obj 0,rv (.num m f)] (K G d)=sv (I i) (K N d)->ae (n+2) (205,0) [.obj 0,.str y,I f] (K G d)=sv (I i) (K N d))->
   ∃i N l,ae (n+2) (205,0) [.obj 0,.str y,I f] (K G d)=sv (I i) (K N d)/\Up G N 1/\iB N i l/\l.map (·.2)=qk y:=λ{y m} hm hy hq go=>by
  exact aw (fN (n:=n) (d:=d) (k:=.num m f) h rfl room λU e=>nomatch e) λi N H M h3=>fB i N _ (go i N H) M (one (.num m f h3 hm rfl hy)) hq.symm
 simp only [kO,List.mem_cons,List.not_mem_nil,or_false] at Y;rcases Y with rfl|rfl|rfl|rfl|rfl|rfl|rfl|rfl|rfl|rfl|rfl|rfl
 ·exact txt (by decide) (by decide) λi N H=>aa [.z 5,.r H]
 ·exact txt (by decide) (by decide) λi N H=>aa [.z 5,.r H]
 ·exact txt (by decide) (by decide) λi N H=>aa [.z 5,.r H]
 ·exact num (m:=0) (nl rfl) (by decide) (by decide) λi N H=>aa [.z 7,.r H]
 ·exact fB 6 G _ (aa [.z 2]) u0 (one (.string rfl rfl)) (by decide)
 ·exact fB 7 G _ (aa [.z 3]) u0 (one (.number rfl rfl)) (by decide)
 ·exact txt (by decide) (by decide) λi N H=>aa [.z 5,.r H]
 ·exact num (m:=1) (nl rfl) (by decide) (by decide) λi N H=>aa [.z 7,.r H]
 ·exact txt (by decide) (by decide) λi N H=>aa [.z 5,.r H]
 ·exact num (m:=7) (nl rfl) (by decide) (by decide) λi N H=>aa [.z 7,.r H]
 ·exact txt (by decide) (by decide) λi N H=>aa [.z 5,.r H]
 ·exact fB 2 G ([]) (aa [.z 1]) u0 ⟨lZ _,λa ha=>(cj ha),.inl ⟨rfl,rfl⟩⟩ (by decide)
noncomputable def m8:List Nat:=[257,4,5,574,32,65,128,542]
def IC {m:Nat}(h:m∈m8):m≠0/\bC (((List.range 10).filter λj=>Lv.bits j&&&m==Lv.bits j).map Lv.bits)=m:=by
 have:m8.all (λm=>m !=0&&bC (((List.range 10).filter λj=>Lv.bits j&&&m==Lv.bits j).map Lv.bits)==m)=true:=by kernel_rfl
 have:=aE this m h;rw [Bool.and_eq_true,bne_iff_ne,beq_iff_eq] at this;exact this
def xi {m:Nat}(h:TT G)(room:G.length+11<=1000000)(hm:m∈m8):∃t N,ae (n+4) (195,0) [.obj 0,I m] (K G d)=sv (I t) (K N d)/\Up G N 11/\Val Lv N t m:=by
 have row:∀j∈List.range 10,∃k,Lv.rows[j]?=some k/\Lv.rows.getD j (.param 0)=k:=λj hj=>by have hj:=List.mem_range.mp hj;exact af _ (cM hj) (by rw [List.getD_eq_getElem?_getD,cM hj];rfl)
 refine bc λfm=>?_;obtain ⟨l,aj,H,u1,v1,e1⟩:=wG (L:=Lv) (d:=d) (m:=n+3) (dd:=38) (k:=0) (c:=1) (i:=(195,0)) (vars:=[nv "tab" (.val (.obj 0)),nv "mask" (.val (I m))]) (by kernel_rfl) (it:=λj=>rv (Lv.rows.getD j (.param 0))) (sel:=λj=>Lv.bits j&&&m==Lv.bits j) (g:=Lv.bits) (l:=List.range 10) h (Nat.le_of_succ_le room) λj hj aj pre t1 r1=>by
  refine aq (row j hj) λk hk e=>e.symm▸?_;have sb:cz (.val (.dict (fV Lv))) (rv k)=some (I (Lv.bits j)):=by show(dh (fV Lv) (rv k)).bind id=_;refine (tU Gv hk).symm▸?_;rfl
  have eq:=dx (Lv.bits j&&&m) (Lv.bits j)
  cases q:Lv.bits j&&&m==Lv.bits j with
  |true=>rw [dT (bE q)] at eq;have A:=Gv.at' hk;refine aw (fN (n:=n+2) (d:=d) t1 A.ok r1 (λU e=>by replace A:=e▸A;exact lx A.un)) λi aB e1 e2 e3=>?_;exact aD i aB (ew [.v sb,.l (eA (Lv.bits j) m),.v sb,.b eq,.r e1]) e2 (λ_=>(iu Gv e2.t.t hk e3).2)
  |false=>rw [dF (beq_eq_false_iff_ne.mp q)] at eq;exact aD 0 aj (ew [.v sb,.l (eA (Lv.bits j) m),.v sb,.b eq]) ((Up.refl t1).mono (lZ _)) (λh=>nomatch h)
 refine aw (tI Gv (n:=n) (d:=d) (pv:=.list (kv l)) u1.t (u1.room (m:=1) room) v1 rfl) λt aB M u2 v2=>fm ?_;rw [e1,(IC hm).2] at v2;exact aD t aB (aa [.z 2,.c H,.r M]) (u1.trans u2) v2
end
def dI (a b:Nat)(h:0<b):fy .Mod (I a) (I b)=some (.val (I (a%b))):=by show(guard ((b:Int) !=0) (some ((a:Int).fmod b))).bind _=_;rw [bne_iff_ne.mpr (Dd h),Int.fmod_eq_emod_of_nonneg _ ((Int.natCast_nonneg _))];rfl
def e_ (a b:Nat)(h:0<b)(h':b<1073741824):fy .FloorDiv (I a) (I b)=some (.val (I (a/b))):=by show(guard ((b:Int) !=0&&decide ((b:Int).natAbs<1073741824)) (some ((a:Int).fdiv b))).bind _=_;rw [bne_iff_ne.mpr (Dd h),dT (show(b:Int).natAbs<1073741824 from h'),Int.fdiv_eq_ediv_of_nonneg _ (Int.natCast_nonneg _)];rfl
structure oz (h:Nat)(w:Nat->Sh):Prop where
 part:∀(n:Nat)(G:List Row)(x size:Nat),0<size->size<100->ae (n+1) (194,0) [.obj h,I size] (K G (w x))=sv (I (x%size)) (K G (w (x/size)))
noncomputable abbrev LL:=List (Pr×Fi)
noncomputable def ij (L:LL):List Pr:=L.map (·.1)
noncomputable def g6 (L:LL):Hf:=L.map λy=>(y.1.name,y.2)
structure ik (G:List Row)(hide:Bool)(L:LL):Prop where
 fi:∀y∈L,b9 G y.1 y.2/\y.2.m≠0/\(hide=false->y.2.cP=false)
 nd:(L.map λy=>y.1.name).Nodup
 nm:∀y∈L,y.1.name∈c7
noncomputable def i_ (h:Nat)(hide:Bool)(L:LL)(ln lh lm cs ss lsd:LV)(σ:St):X:=⟨ez (197,0),[nv "tab" (.val (.obj 0)),nv "state" (.val (.obj h)),nv "hide" (.val (.bool hide)),nv "props" (.ml ((ij L).map pv)),nv "held" (.md (sd fv (g6 L))),(.ofString "name",ln),(.ofString "how",lh),(.ofString "mask",lm),(.ofString "cells",cs),(.ofString "signs",ss),(.ofString "side",lsd),nv "t" .unset],σ⟩
def PM {α:Type}{s:Str}{v:α}:∀{S:List (Str×α)},s∉S.map (·.1)->dQ s v S=S++[(s,v)]:=by
 intro z_
 induction z_ with
 |nil=>intro _;exact rfl
 |cons e S ak=>intro h;show cond (e.1==s) _ _=_;rw [bN λq:e.1=s=>h (List.mem_cons.mpr (.inl q.symm)),ak λq=>h (aT _ q)];rfl
section
variable{n h:Nat} {G:List Row} {w:Nat->Sh} {hide:Bool} {L:LL} {x:Nat}
def ik.up {N:List Row}(u:G<+:N)(l:ik G hide L):ik N hide L:=⟨λy hy=>⟨(l.fi y hy).1.up u,(l.fi y hy).2⟩,l.nd,l.nm⟩
def ik.add {p:Pr}{a:Fi}(l:ik G hide L)(f:b9 G p a)(m:a.m≠0)(hh:hide=false->a.cP=false)(hn:p.name∈c7)(nw:p.name∉L.map λy=>y.1.name):ik G hide (L++[(p,a)]):=by
 refine ⟨λy hy=>?_,?_,λy hy=>?_⟩
 ·rcases pE hy with hy|hy
  ·exact l.fi y hy
  ·obtain rfl:=sE hy;exact ⟨f,m,hh⟩
 ·rw [List.map_append,List.nodup_append];exact bx l.nd (List.pairwise_singleton ..) (λb hb c hc vM=>nw ((show c=p.name from sE hc)▸vM▸hb))
 ·rcases pE hy with hy|hy
  ·exact l.nm y hy
  ·obtain rfl:=sE hy;exact hn
def ik.len (l:ik G hide L):L.length<=3:=by
 have:=Az l.nd λx Y=>by(refine bT Y λy hy bu=>?_;subst bu);exact l.nm y hy
 rw [lM] at this;exact this
def uE (i:Nat)(hi:i<8):cz (.ml (m8.map I)) (I i)=some (I (m8.getD i 0))/\m8.getD i 0∈m8:=by
 have e:m8[i]?=some (m8.getD i 0):=by rw [List.getD_eq_getElem?_getD,cM hi];rfl
 exact ⟨nq (by rw [List.getElem?_map,e];rfl) (nl rfl),dU e⟩
def Rw (c:oz h w)(t:TT G)(room:G.length+11<=1000000)(l:ik G hide L){nm:Str}(hn:nm∈c7)(nw:nm∉L.map λy=>y.1.name){ln lh lm:LV}:
  ∃fl L' lh' lm' N,(∀Z,aZ (n+4) 11 (197,0) 0 (.str nm) (i_ h hide L ln lh lm .unset .unset .unset (K G (w x))) Z=Z fl (i_ h hide L' (.val (.str nm)) lh' lm' .unset .unset .unset (K N (w (x/6/8)))))/\(fl=.next\/fl=.cont)/\Up G N 11/\ik N hide L'/\(∀y∈L',y∈L\/y.1.name=nm):=by
 have p1:=c.part (n+3) G x 6 (by decide) (nl rfl);have p2:=c.part (n+3) G (x/6) 8 (by decide) (nl rfl);have mi:=uE (x/6%8) (Nat.mod_lt _ (by decide));have l3:=l.len;generalize hm:m8.getD (x/6%8) 0=m at mi;have u0:=(Up.refl t).mono (lZ 11);have skip:∀{fl:Fl}{lh' lm':LV},fl=.next\/fl=.cont->(∀Z,aZ (n+4) 11 (197,0) 0 (.str nm) (i_ h hide L ln lh lm .unset .unset .unset (K G (w x))) Z=Z fl (i_ h hide L (.val (.str nm)) lh' lm' .unset .unset .unset (K G (w (x/6/8)))))->∃fl L' lh' lm' N,(∀Z,aZ (n+4) 11 (197,0) 0 (.str nm) (i_ h hide L ln lh lm .unset .unset .unset (K G (w x))) Z=Z fl (i_ h hide L' (.val (.str nm)) lh' lm' .unset .unset .unset (K N (w (x/6/8)))))/\(fl=.next\/fl=.cont)/\Up G N 11/\ik N hide L'/\(∀y∈L',y∈L\/y.1.name=nm):=λ{fl lh' lm'} hf ht=>rN fl L lh' lm' G ht hf u0 l (λy hy=>.inl hy)
 refine aw (xi (n:=n) (d:=w (x/6/8)) t room mi.2) λk aj H u1 v1=>?_;have add:∀{fl sr:Nat}{o hd:Bool}{lh' lm':LV},rq ⟨nm,k,fl,sr⟩ ⟨m,o,hd⟩=true->(hide=false->hd=false)->(grown eL ((ij L).map pv) (pv ⟨nm,k,fl,sr⟩)=some ((ij (L++[(⟨nm,k,fl,sr⟩,⟨m,o,hd⟩)])).map pv)->gN (sd fv (g6 L)) (.str nm) (fv ⟨m,o,hd⟩)=some (sd fv (g6 (L++[(⟨nm,k,fl,sr⟩,⟨m,o,hd⟩)])))->
   ∀Z,aZ (n+4) 11 (197,0) 0 (.str nm) (i_ h hide L ln lh lm .unset .unset .unset (K G (w x))) Z=Z .next (i_ h hide (L++[(⟨nm,k,fl,sr⟩,⟨m,o,hd⟩)]) (.val (.str nm)) lh' lm' .unset .unset .unset (K aj (w (x/6/8)))))->∃fl L' lh' lm' N,(∀Z,aZ (n+4) 11 (197,0) 0 (.str nm) (i_ h hide L ln lh lm .unset .unset .unset (K G (w x))) Z=Z fl (i_ h hide L' (.val (.str nm)) lh' lm' .unset .unset .unset (K N (w (x/6/8)))))/\(fl=.next\/fl=.cont)/\Up G N 11/\ik N hide L'/\(∀y∈L',y∈L\/y.1.name=nm):=λ{fl sr o hd lh' lm'} qh hh go=>by
  have g1:=nU (xs:=(ij L).map pv) (v:=pv ⟨nm,k,fl,sr⟩) (by delta ij;rw [lM,lM];exact nT l3 (nl rfl));have hk:∀e∈g6 L,cO e.1:=λe he=>by(refine bT he λy hy pO=>?_;subst pO);exact eM (l.nm y hy)
  have g2:=xC (f:=fv) (v:=⟨m,o,hd⟩) (eM hn) hk (by delta g6;rw [lM];exact nT l3 (nl rfl));rw [PM (by delta g6;refine List.map_map.symm▸?_;exact nw)] at g2;refine rN .next _ lh' lm' aj (go ((by delta ij;rw [List.map_append,List.map_append];rfl:(ij L).map pv++[pv ⟨nm,k,fl,sr⟩]=(ij (L++[(⟨nm,k,fl,sr⟩,⟨m,o,hd⟩)])).map pv)▸g1) ((by delta g6;rw [List.map_append];rfl:g6 L++[(nm,⟨m,o,hd⟩)]=g6 (L++[(⟨nm,k,fl,sr⟩,⟨m,o,hd⟩)]))▸g2)) (.inl rfl) u1 ((l.up u1.pre).add ⟨v1,qh⟩ (IC mi.2).1 hh hn nw) (λy hy=>?_);refine (pE hy).elim (λhy=>?_) (λhy=>?_)
  ·exact .inl hy
  ·obtain rfl:=sE hy;exact .inr rfl
 have Y:x%6=0\/x%6=1\/x%6=2\/x%6=3\/x%6=4\/x%6=5:=JC (Nat.mod_lt x (nl rfl));refine Y.elim (λe=>?_) (λBK=>BK.elim (λe=>?_) (λBU=>BU.elim (λe=>?_) (λBV=>BV.elim (λe=>?_) (λBW=>BW.elim (λe=>?_) (λe=>?_)))))<;>rw [e] at p1
 ·exact add (fl:=0) (sr:=0) (o:=false) (lh':=.val (.int 0)) (lm':=.val (I m)) rfl (λ_=>rfl) λg1 g2=>aX [.r p1,.z 1,.r p2,.v mi.1,.z 2,.r H,.z 3,.s g1,.z 4,.e g2]
 ·exact add (fl:=1) (sr:=0) (o:=true) (lh':=.val (.int 1)) (lm':=.val (I m)) rfl (λ_=>rfl) λg1 g2=>aX [.r p1,.z 1,.r p2,.v mi.1,.z 2,.r H,.z 3,.s g1,.z 3,.e g2]
 ·exact skip (lh':=.val (.int 2)) (lm':=.val (I m)) (.inr rfl) (aX [.r p1,.z 1,.r p2,.v mi.1,.z 1])
 ·exact add (fl:=3) (sr:=0) (o:=true) (lh':=.val (.int 3)) (lm':=.val (I m)) rfl (λ_=>rfl) λg1 g2=>aX [.r p1,.z 1,.r p2,.v mi.1,.z 2,.r H,.z 3,.s g1,.z 4,.e g2]
 ·cases hide with
  |false=>exact skip (lh':=.val (.int 4)) (lm':=.val (I m)) (.inr rfl) (aX [.r p1,.z 1,.r p2,.v mi.1,.z 2])
  |true=>exact add (fl:=8) (sr:=1) (o:=false) (hd:=true) (lh':=.val (.int 4)) (lm':=.val (I m)) rfl (λe=>nomatch e) λg1 g2=>aX [.r p1,.z 1,.r p2,.v mi.1,.z 2,.r H,.z 3,.s g1,.z 4,.e g2]
 ·cases hide with
  |false=>exact skip (fl:=.cont) (lh':=.val (.int 5)) (lm':=.val (I m)) (.inr rfl) (aX [.r p1,.z 1,.r p2,.v mi.1,.z 2])
  |true=>exact add (fl:=16) (sr:=1) (o:=false) (hd:=true) (lh':=.val (.int 5)) (lm':=.val (I m)) rfl (λe=>nomatch e) λg1 g2=>aX [.r p1,.z 1,.r p2,.v mi.1,.z 2,.r H,.z 3,.s g1,.z 4,.e g2]
end
section
variable{n h t:Nat} {G:List Row} {d:Sh} {w:Nat->Sh} {hide:Bool} {L:LL} {x:Nat}
def PN (c:oz h w):∀{nms:List Str}{L:LL}{G:List Row}{x:Nat}{ln lh lm:LV},TT G->G.length+11*nms.length<=1000000->ik G hide L->nms.Nodup->(∀nm∈nms,nm∈c7/\nm∉L.map λy=>y.1.name)->
  ∃L' kM lh' lm' N x',(∀Z,cF (n+4) 11 (197,0) 0 (nms.map .str) (i_ h hide L ln lh lm .unset .unset .unset (K G (w x))) Z=Z .next (i_ h hide L' kM lh' lm' .unset .unset .unset (K N (w x'))))/\Up G N (11*nms.length)/\ik N hide L':=by
 intro z_
 induction z_ with
 |nil=>intro L G x ln lh lm t _ l _ _;exact ⟨L,ln,lh,lm,G,x,dk (by kernel_rfl),Up.refl t,l⟩
 |cons nm nms ak=>
  intro L G x ln lh lm t room l nd hn;refine bc λiF=>?_;refine IJ (Rw (n:=n) (x:=x) c t (nT (nA (lA 11 _) _) (by rw [Nat.add_comm 11];exact room:G.length+(11+11*nms.length)<=1000000)) l (hn nm mS).1 (hn nm mS).2 (ln:=ln) (lh:=lh) (lm:=lm)) λfl L1 DM DN aj ht hf u1 l1 hL=>?_;obtain ⟨L',kM,lh',lm',N,x',a,b,e⟩:=ak (x:=x/6/8) (ln:=.val (.str nm)) (lh:=DM) (lm:=DN) u1.t (u1.room (by rw [Nat.add_comm 11];exact room)) l1 (nE nd).2 λy hy=>⟨(hn y (aT _ hy)).1,λhm=>by
   (refine bT hm λz hz jw=>?_;subst jw);refine (hL z hz).elim (λhz=>?_) (λhz=>?_)
   ·exact (hn _ (aT _ hy)).2 (mM hz)
   ·exact (nE nd).1 (hz▸hy)⟩
  refine iF ?_;refine ⟨L',kM,lh',lm',N,x',?_,(u1.trans b).mono (by rw [Nat.add_comm];exact nR _),e⟩;rcases hf with rfl|rfl
  ·exact cD ht a
  ·exact zD ht a
def VX {a:Nat}(h:3<a):fy .Sub (I a) (.int 4)=some (.val (I (a-4))):=by show some (LV.val (.int (a-4)))=_;exact (show a-4=((a-4:Nat):Int) by exact XM ‹_›).symm▸rfl
def GO (c:oz h w)(t:TT G)(room:G.length+11<=1000000){k:Nat}{cs ss:List V}(H:cs.length<=10)(M:ss.length<=10){ln lh lm lsd:LV}:
  ∃o cc lh' lm' N,(∀Z,aZ (n+4) 11 (197,0) 1 (I k) (i_ h hide L ln lh lm (.ml cs) (.ml ss) lsd (K G (w x))) Z=Z .next (i_ h hide L ln lh' lm' (.ml (cs++[cw o])) (.ml (ss++[cv cc])) (.val (I k)) (K N (w (x/12)))))/\Up G N 11/\both (λc m=>Val Lv N c.1 m) cc o:=by
 have p1:=c.part (n+3) G x 12 (nl rfl) (nl rfl);have gt:aN .Gt (I (x%12)) (.val (.int 3))=some (decide (3<x%12)):=(vN _ _).trans (congrArg some (decide_eq_decide.mpr (Int.ofNat_lt (n:=3))));have g1:=λv=>nU (xs:=cs) (v:=v) (nT H (nl rfl));have g2:=λv=>nU (xs:=ss) (v:=v) (nT M (nl rfl));by_cases q:3<x%12
 ·replace gt:=(dT q)▸gt;have mi:=uE (x%12-4) XO;generalize m8.getD (x%12-4) 0=m at mi;exact aw (xi (n:=n) (d:=w (x/12)) t room mi.2) λt' aj e1 u1 v1=>mN (some m) (some (t',k)) (.val (I (x%12))) (.val (I m)) aj (aX [.r p1,.b gt,.z 1,.l (VX q),.v mi.1,.s (g1 (I m)),.b gt,.r e1,.s (g2 (.tup [I t',I k]))]) u1 v1
 ·replace gt:=(dF q)▸gt;exact mN none none (.val (I (x%12))) (.val (.int (-1))) G (aX [.r p1,.b gt,.z 1,.s (g1 (.int (-1))),.b gt,.s (g2 (.tup []))]) ((Up.refl t).mono (lZ _)) trivial
def SK {G:List Row}{hide:Bool}:∀{L:LL},ik G hide L->∀x,both (b9 G) (dz (ij L) x) ((g6 L).lookup x):=by
 intro z_
 induction z_ with
 |nil=>intro _ _;exact trivial
 |cons y L ak=>
  intro l x;show both (b9 G) (dz (y.1::ij L) x) (List.lookup x ((y.1.name,y.2)::g6 L));rw [tG];show both (b9 G) _ (match x==y.1.name with|true=>some y.2|false=>(g6 L).lookup x);by_cases e:x=y.1.name
  ·rw [if_pos e,bI e];exact (l.fi y mS).1
  ·rw [if_neg e,bN e];exact ak ⟨λz hz=>l.fi z (aT _ hz),(nE l.nd).2,λz hz=>l.nm z (aT _ hz)⟩ x
def LJ {O:Ob}{s c:Option (Nat×Nat)}(t:TT G)(room:G.length+1<=1000000)(l:ik G hide L)(hO:O.f=g6 L)(hs:both (λc m=>Val Lv G c.1 m) s O.s)(hc:both (λc m=>Val Lv G c.1 m) c O.c):
  ∃r N U,ae (n+2) (75,0) [.obj 0,.list ((ij L).map pv),.tup [],.tup [],cv s,cv c] (K G d)=sv (I r) (K N d)/\Up G N 1/\cK N r O U s c:=by
 have nm:∀p∈ij L,p.name∈c7:=λp hp=>by(refine bT hp λy hy kJ=>?_;subst kJ);exact l.nm y hy
 have g:GE (hY [] (ij L)):=GE.nil.adds nm;have gp:GP (ij L):=⟨by delta pl ij;rw [List.map_map,List.map_map];exact l.nd,λe he=>by(refine bT he λp hp iw=>?_;subst iw);exact ⟨nm p hp,rfl⟩⟩;refine aw (fN (n:=n) (d:=d) (k:=.obj (n7 (hY [] (ij L))) s c) t (List.all_eq_true.mpr λp hp=>eM ((sP g).1.nm hp)) room λU e=>nomatch e) λr N H M h3=>⟨r,N,_,?_,M,h3,(sP g).1,λx=>?_,hs.up λ_ _=>Val.up M.pre,hc.up λ_ _=>Val.up M.pre⟩
 ·exact aa [.r (NV (n:=n) (σ:=K G d) nm),.z 2,.r H]
 ·rw [(sP g).2,Ag (S:=[]) gp,hO];exact (SK l x).up λ_ _=>b9.up M.pre
structure mc (G:List Row)(hide:Bool)(t:Nat)(O:Ob):Prop where
 at':∃U s c,cK G t O U s c
 g:GH O.f
 pl:∀x a,O.f.lookup x=some a->a.m≠0/\(hide=false->a.cP=false)
def nF (c:oz h w)(t:TT G)(room:G.length+60<=1000000):∃r O x' N,ae (n+5) (197,0) [.obj 0,.obj h,.bool hide] (K G (w x))=sv (.tup [I r,aV (.o O)]) (K N (w x'))/\Up G N 60/\mc N hide r O:=by
 refine bc λXv=>?_;obtain ⟨L,ln,lh,lm,aj,x1,H,u1,l⟩:=PN (n:=n) (x:=x) (ln:=.unset) (lh:=.unset) (lm:=.unset) c (hide:=hide) (L:=[]) (nms:=[.ofString "p",.ofString "q",.ofString "0"]) t (nT (nA (nl rfl) _) room) ⟨λy h=>(nomatch h),List.Pairwise.nil,λy h=>(nomatch h)⟩ (by decide) λnm hn=>⟨by simp only [List.mem_cons,List.not_mem_nil,or_false] at hn;rcases hn with rfl|rfl|rfl<;>decide,λh=>cj h⟩
 refine jI (GO (n:=n) (x:=x1) (hide:=hide) (L:=L) (k:=0) (cs:=[]) (ss:=[]) (ln:=ln) (lh:=lh) (lm:=lm) (lsd:=.unset) c u1.t (u1.cJ room (nl rfl)) (lZ _) (lZ _)) λo1 c1 DM DN aB M u2 v2=>?_;have cU:=u1.trans u2;refine jI (GO (n:=n) (x:=x1/12) (hide:=hide) (L:=L) (k:=1) (cs:=[cw o1]) (ss:=[cv c1]) (ln:=ln) (lh:=DM) (lm:=DN) (lsd:=.val (.int 0)) c cU.t (cU.cJ room (nl rfl)) (show 1<=10 by decide) (show 1<=10 by decide)) λo2 c2 Zx Zy cC h3 u3 v3=>fA (LJ (n:=n+2) (d:=w (x1/12/12)) (O:=⟨g6 L,o1,o2⟩) (cU.trans u3).t ((cU.trans u3).cJ room (by decide)) (l.up (u2.pre.trans u3.pre)) rfl (v2.up λ_ _=>Val.up u3.pre) v3) λr jA U h4 u4 oa=>Xv ?_;refine ⟨r,⟨g6 L,o1,o2⟩,x1/12/12,jA,?_,((cU.trans u3).trans u4).mono (by decide),(iP U c1 c2 oa),(⟨by delta g6;rw [List.map_map];exact l.nd,λe he=>by(refine bT he λy hy mT=>?_;subst mT);exact l.nm y hy⟩:GH (g6 L)),λx a e=>?_⟩
 ·exact aa [.z 1,.f H,.z 1,.f (cD M (cD h3 (dk (by kernel_rfl)))),.v (p0 (cv c1) (cv c2)),.v (p7 (cv c1) (cv c2)),.r h4,.v (p0 (cw o1) (cw o2)),.v (p7 (cw o1) (cw o2))]
 ·refine bT (jd e) λy hy e=>?_;(injection e with q_ dq;subst q_;subst dq);exact (l.fi y hy).2
end
def Bj {l:List (Nat×Nat)}{p:List Nat}(h:l.map (·.2)=p):l=bY p λj=>(l.getD j (0,0)).1:=by
 subst h;refine List.ext_getElem? λj=>?_;delta bY gw;rw [List.getElem?_map,List.getElem?_map,lM];by_cases hj:j<l.length
 ·rw [List.getElem?_range hj,cM hj];show some l[j]=some ((l.getD j (0,0)).1,(l.map (·.2)).getD j 0);refine List.getD_eq_getElem?_getD.symm▸List.getD_eq_getElem?_getD.symm▸List.getElem?_map.symm▸(cM hj).symm▸?_;rfl
 ·rw [List.getElem?_eq_none (Nat.not_lt.mp hj),List.getElem?_eq_none (by refine List.length_range.symm▸?_;exact Nat.not_lt.mp hj)];rfl
def yu {x k:Nat}(h:k<64):fy .Mult (.list [I x]) (I k)=some (.ml ((List.replicate k x).map I)):=by
 have e:(List.replicate k [I x]).flatten=(List.replicate k x).map I:=by
  clear h
  induction k with
  |zero=>rfl
  |succ k ih=>show[I x]++(List.replicate k [I x]).flatten=_;rw [ih];rfl
 show(guard (decide (0<=(k:Int))&&decide ((k:Int)<64)&&aY (1*64)) (some (LV.ml ((List.replicate (k:Int).toNat [I x]).flatten))))=_;rw [dT (Int.natCast_nonneg k),dT (by exact Int.ofNat_le.mpr ‹_›),Int.toNat_natCast,e];rfl
def C8 {a b:List Nat}(h:a.length+b.length<=1000):fy .Add (.list (a.map I)) (.list (b.map I))=some (.ml ((a++b).map I)):=by show guard (aY ((a.map I).length+(b.map I).length)) _=_;rw [dy (by rw [lM,lM];exact nT ‹_› (nl rfl)),List.map_append];rfl
section
variable{n h t:Nat} {G:List Row} {d:Sh} {w:Nat->Sh} {x:Nat}
def SM (i:Nat)(hi:i<8):cz (.val (.list (m8.map I))) (I i)=some (I (m8.getD i 0)):=(uE i hi).1
def EH (c:oz h w){vars:bL}(ht:∀x,(m8.getD (x%8) 0)∈m8->∀s,∀Z,fz (n+1) 39 (198,0) 0 vars (I s) (K G (w x)) Z=Z (some (bV (m8.getD (x%8) 0,s))) (K G (w (x/8)))):
  ∀{p:List Nat}{x:Nat},∃(l:List (Nat×Nat)) (x':Nat),(∀Z,eN (n+1) 39 (198,0) 0 vars (p.map I) (K G (w x)) Z=Z (l.map bV) (K G (w x')))/\l.map (·.2)=p/\∀y∈l,y.1∈m8
 |[],x=>aD ([]) x (jc (by kernel_rfl)) rfl (λy hy=>cj hy)
 |s::p,x=>by
  have mi:=(uE (x%8) (Nat.mod_lt _ (nl rfl))).2;refine aw (EH c ht (p:=p) (x:=x/8)) λl x' a b e=>aD ((m8.getD (x%8) 0,s)::l) x' (fY (ht x mi s) a) (List.map_cons.symm▸b.symm▸rfl) (λy hy=>?_);rcases mE hy with rfl|hy
  ·exact mi
  ·exact e y hy
def EI {vars:bL}(ht:∀(y:Nat×Nat)(t:Nat)(G N:List Row),ae (n+4) (195,0) [.obj 0,I y.1] (K G d)=sv (I t) (K N d)->∀Z,fz (n+4) 38 (198,0) 1 vars (bV y) (K G d) Z=Z (some (bV (t,y.2))) (K N d)):
  ∀{l:List (Nat×Nat)}{G:List Row},TT G->G.length+11*l.length<=1000000->(∀y∈l,y.1∈m8)->
  ∃(l2:List (Nat×Nat)) (N:List Row),(∀Z,eN (n+4) 38 (198,0) 1 vars (l.map bV) (K G d) Z=Z (l2.map bV) (K N d))/\Up G N (11*l.length)/\l2.map (·.2)=l.map (·.2)/\∀j<l.length,Val Lv N (l2.getD j (0,0)).1 (l.getD j (0,0)).1
 |[],G,t,_,_=>d6 ([]) G (jc (by kernel_rfl)) (Up.refl t) rfl (λj hj=>Wv hj)
 |y::l,G,t,room,hm=>by
  have room:G.length+(11+11*l.length)<=1000000:=by rw [Nat.add_comm 11];exact room
  refine bc λfj=>aw (xi (n:=n) (d:=d) t (nT (nA (lA 11 _) _) room) (hm y mS)) λt1 aj H u1 v1=>hZ (EI ht u1.t (u1.room room) λz hz=>hm z (aT _ hz)) λl2 aB a b e f=>fj ?_;refine d6 ((t1,y.2)::l2) aB (fY (ht y t1 G aj H) a) ((u1.trans b).mono (by rw [Nat.add_comm];exact nR _)) (by rw [List.map_cons,List.map_cons,e]) (λj hj=>?_)
  induction j with
  |zero=>exact v1.up b.pre
  |succ j=>exact f j (Nat.lt_of_succ_lt_succ hj)
def Fm {vars:bL}{σ:St}(ht:∀(y:Nat×Nat),∀Z,fz n 39 (73,0) 0 vars (bV y) σ Z=Z (some (bV y)) σ):∀{l:List (Nat×Nat)},∀Z,eN n 39 (73,0) 0 vars (l.map bV) σ Z=Z (l.map bV) σ:=by
 intro z_
 induction z_ with
 |nil=>exact jc (by kernel_rfl)
 |cons y l ak=>exact fY (ht y) (ak)
def Jv {xs:List V}(h:xs.length<=1000000):kW (.val (.list xs))=some (I xs.length):=by show(guard (aY xs.length) _)=_;rw [dy ((nT ‹_› (nl rfl)))];rfl
def Oc {e ro:Nat}(t:TT G)(room:G.length+1<=1000000):∃r N,ae (n+3) (73,0) [.obj 0,.list [bV (e,2)],I ro] (K G d)=sv (I r) (K N d)/\Up G N 1/\N[r]?=some (.arr e ro):=by refine aw (fN (n:=n) (d:=d) (k:=.arr e ro) t rfl room λU e=>nomatch e) λr N H M h3=>?_;exact aD r N (aa [.z 2,.c (Fm (n:=n+2) (vars:=[nv "tab" (.val (.obj 0)),nv "elems" (.val (.list [bV (e,2)])),nv "ro" (.val (I ro)),nv "rows" .unset]) (σ:=K G d) (λy=>by delta bV;exact ew [] (by kernel_rfl)) (l:=[(e,2)])),.z 11,.r (by exact aa [.r H] (by kernel_rfl):ae (n+2) (69,0) [.obj 0,I e,I ro] (K G d)=sv (I r) (K N d))]) M h3
def Od {p:List Nat}{ts:Nat->Nat}{ro:Nat}(t:TT G)(room:G.length+1<=1000000)(hp:p∈eH):∃r N,ae (n+3) (73,0) [.obj 0,.list ((bY p ts).map bV),I ro] (K G d)=sv (I r) (K N d)/\Up G N 1/\N[r]?=some (.tup (bY p ts) ro):=by
 refine aw (fN (n:=n+1) (d:=d) (k:=.tup (bY p ts) ro) t rfl room λU e=>nomatch e) λr N H M h3=>?_;have hc:=Fm (n:=n+2) (vars:=[nv "tab" (.val (.obj 0)),nv "elems" (.val (.list ((bY p ts).map bV))),nv "ro" (.val (I ro)),nv "rows" .unset]) (σ:=K G d) (λy=>by delta bV;exact ew []) (l:=bY p ts)
 have l4:=(rx hp).1;have hl:=tJ p ts;have sp:=N6 (n:=n+1) (σ:=K G d) (ts:=ts) p hp;have ne:=LF (n:=n) (σ:=K G d) (ts:=ts) p hp;have rs:=N7 (n:=n) (σ:=K G d) (ts:=ts) p hp;have ll:=Jv (xs:=(bY p ts).map bV) (by refine hl.symm▸?_;exact nT l4 (nl rfl));replace ll:=hl▸ll;refine aD r N ?_ M h3;by_cases e:p.length=1
 ·have:p=[0]\/p=[1]:=by
   have:eH.all (λp=>p.length !=1||(p==[0]||p==[1]))=true:=by kernel_rfl
   have:=aE this p hp;simp only [Bool.or_eq_true,bne_iff_ne,beq_iff_eq] at this;exact this.resolve_left λh=>h e
  rcases this with rfl|rfl
  ·exact aa [.z 2,.c hc,.r sp,.z 1,.r ne,.r rs,.z 6,.r H]
  ·exact aa [.z 2,.c hc,.r sp,.z 1,.r ne,.r rs,.z 6,.r H]
 ·exact aa [.z 1,.g (gT (n:=((bY p ts).map bV).length) (by refine hl.symm▸?_;exact nT l4 (nl rfl))),.c hc,.r sp,.z 1,.r ne,.r rs,.v ll,.b (neN e),.l (yn (xs:=(bY p ts).map bV) (by refine hl.symm▸?_;exact nT l4 (nl rfl))),.r H]
end
section
variable{n h t:Nat} {G:List Row} {d:Sh} {w:Nat->Sh} {x:Nat}
noncomputable def iC (a b r tl:Nat):List Nat:=List.replicate a 0++List.replicate b 1++List.replicate r 2++List.replicate tl 0
def SN {a b r tl:Nat}(ha:a<3)(hb:b<2)(hr:r<2)(ht:tl<2)(h:tl=0\/(r=1/\b=0)):iC a b r tl∈eH/\iC a b r tl≠[2]\/iC a b r tl=[2]/\r=1/\b=0:=by
 have:(List.range 3).all (λa=>(List.range 2).all λb=>(List.range 2).all λr=>(List.range 2).all λtl=>!(decide (tl=0\/(r=1/\b=0)))||(decide (iC a b r tl∈eH/\iC a b r tl≠[2])||decide (iC a b r tl=[2]/\r=1/\b=0)))=true:=by kernel_rfl
 have:=aE (aE (aE (aE this a (rI ha)) b (rI hb)) r (rI hr)) tl (rI ht);rw [dT h] at this;simp only [Bool.not_true,Bool.false_or,Bool.or_eq_true,decide_eq_true_eq] at this;exact this
def PO {p:List Nat}(hp:p∈eH):aN .Eq (.list (p.map I)) (.val (.list [.int 2]))=some false:=by revert p;apply fG;kernel_rfl
def GQ {a b r tl:Nat}(ha:a<3)(hb:b<2)(hr:r<2)(ht:tl<2):(iC a b r tl).length<=5:=by delta iC;simp only [List.length_append,List.length_replicate];exact Nat.add_le_add (Nat.add_le_add (Nat.add_le_add (Nat.le_of_lt_succ ha) (Nat.le_of_lt_succ hb)) (Nat.le_of_lt_succ hr)) (Nat.le_of_lt_succ ht)
noncomputable def YW (h ro:Nat)(mask need free rest tail marks elems:LV):bL:=[nv "tab" (.val (.obj 0)),nv "state" (.val (.obj h)),nv "ro" (.val (I ro)),(.ofString "mask",mask),(.ofString "need",need),(.ofString "free",free),(.ofString "rest",rest),(.ofString "tail",tail),(.ofString "marks",marks),(.ofString "elems",elems),nv "t" .unset]
structure y9 (G:List Row)(t:Nat)(p:Sp):Prop where
 src:∀d,Src G d t p
 pv:cL (aV p) (.p (.a p))
 row:∃k,G[t]?=some k/\(rk k=11\/rk k=12)
noncomputable def y_ (h ro ne fe rs tl:Nat)(x:LV):bL:=YW h ro .unset (.val (I ne)) (.val (I fe)) (.val (I rs)) (.val (I tl)) (.val (.list ((iC ne fe rs tl).map I))) x
def GS {α β:Type}{f:α->β}{l:List α}{b:β}(h:l.map f=[b]):∃a,l=[a]/\f a=b:=by
 induction l with
 |nil=>exact mP h
 |cons a r=>obtain ⟨H,M⟩:=List.cons.inj h;exact af a (by rw [List.map_eq_nil_iff.mp M]) H
def GU (c:oz h w)(t:TT G)(room:G.length+60<=1000000):∃r p x' N,ae (n+5) (198,0) [.obj 0,.obj h] (K G (w x))=sv (.tup [I r,aV p]) (K N (w x'))/\Up G N 60/\y9 N r p:=by
 have p1:=c.part (n+3) G x 2 (by decide) (by decide);have p2:=c.part (n+3) G (x/2) 4 (nl rfl) (nl rfl);have za:x%2=0\/x%2=1:=(JB (md rfl));have e3:=dx (x/2%4) 3;generalize x%2=ro at p1 za;by_cases q:x/2%4=3
 ·replace e3:=(dT q)▸e3;generalize x/2/4=y at p2;have p3:=c.part (n+3) G y 8 (by decide) (by decide);have mi:=uE (y%8) (Nat.mod_lt _ (by decide));generalize m8.getD (y%8) 0=m at mi;exact bc λVY=>aw (xi (n:=n) (d:=w (y/8)) t (nT (nA (nl rfl) _) room) mi.2) λk aj H u1 v1=>aw (fN (n:=n+2) (d:=w (y/8)) (k:=.arr k ro) u1.t rfl (u1.cJ (m:=1) room (by decide)) λU e=>nomatch e) λr aB M u2 h3=>VY (⟨r,.l m,y/8,aB,aa [.r p1,.r p2,.b e3,.z 1,.r p3,.v mi.1,.r H,.r (aa [.r M] (by kernel_rfl):ae (n+4) (69,0) [.obj 0,I k,I ro] (K aj (w (y/8)))=sv (I r) (K aB (w (y/8))))],(u1.trans u2).mono (by decide),λd=>⟨k,ro,h3,za,v1.up u2.pre⟩,.l m,_,h3,.inl rfl⟩)
 ·replace e3:=(dF q)▸e3;generalize x/2/4=y at p2;have p3:=c.part (n+3) G y 3 (by decide) (nl rfl);have p4:=c.part (n+3) G (y/3) 2 (by decide) (by decide);have p5:=c.part (n+3) G (y/3/2) 2 (by decide) (by decide);have p6:=c.part (n+3) G (y/3/2/2) 2 (by decide) (by decide);have la:y%3<3:=Nat.mod_lt _ (by decide);have lb:y/3%2<2:=Nat.mod_lt _ (by decide);have lr:y/3/2%2<2:=Nat.mod_lt _ (by decide);have lt':y/3/2/2%2<2:=Nat.mod_lt _ (by decide);have r1:=dx (y/3/2%2) 1;have f0:=dx (y/3%2) 0;generalize y/3/2/2%2=tl at p6 lt';generalize y/3/2%2=rs at p5 lr r1;generalize y/3%2=fe at p4 lb f0;generalize y%3=ne at p3 la;have rest:∀{tl z:Nat},tl<2->(tl=0\/(rs=1/\fe=0))->
    (∀(l l2:List (Nat×Nat))(z' r:Nat)(aj aB:List Row)(v:V)(mk:Bool),
     (∀Z,eN (n+4) 39 (198,0) 0 (y_ h ro ne fe rs tl .unset) ((iC ne fe rs tl).map I) (K G (w z)) Z=Z (l.map bV) (K G (w z')))->
     (∀Z,eN (n+4) 38 (198,0) 1 (y_ h ro ne fe rs tl (.val (.list (l.map bV)))) (l.map bV) (K G (w z')) Z=Z (l2.map bV) (K aj (w z')))->
     l.length<=5->ae (n+4) (73,0) [.obj 0,.list (l2.map bV),I ro] (K aj (w z'))=sv (I r) (K aB (w z'))->aN .Eq (.list ((iC ne fe rs tl).map I)) (.val (.list [.int 2]))=some mk->
     (mk=true/\(rs=1/\fe=0)/\(∃m,l=[(m,2)]/\v=.tup [.str "l",I m])\/mk=false/\v=.tup [.str "t",.list (l.map bV)])->
     ae (n+5) (198,0) [.obj 0,.obj h] (K G (w x))=sv (.tup [I r,v]) (K aB (w z')))->
    ∃r p x' N,ae (n+5) (198,0) [.obj 0,.obj h] (K G (w x))=sv (.tup [I r,aV p]) (K N (w x'))/\Up G N 60/\y9 N r p:=λ{tl z} Kh hc go=>by
   have pl:=GQ la lb lr Kh;refine bc λeV=>bc λdn=>?_;refine aw (EH (n:=n+3) (G:=G) c (vars:=y_ h ro ne fe rs tl .unset) (λx _ s=>by have mi:=SM (x%8) (Nat.mod_lt _ (by decide));unfold bV;exact ew [.z 1,.r (c.part (n+3) G x 8 (by decide) (by decide)),.v mi]) (p:=iC ne fe rs tl) (x:=z)) λl z' a1 a2 a3=>?_
   have ll:l.length=(iC ne fe rs tl).length:=by rw [<-a2,lM]
   have l5:=nT (Nat.le_of_eq ll) pl;have l6:11*l.length+1<=60:=nT (Nat.succ_le_succ (Nat.mul_le_mul_left 11 l5)) (nl rfl);refine hZ (EI (n:=n) (d:=w z') (vars:=y_ h ro ne fe rs tl (.val (.list (l.map bV)))) (λy t G N e=>by unfold bV;exact ew [.r e]) (l:=l) t (nT (nA (nT (Nat.mul_le_mul_left 11 l5) (nl rfl)) _) room) a3) λl2 aj b1 b2 b3 b4=>?_
   refine dn (eV ?_);have rm:aj.length+1<=1000000:=b2.cJ (m:=1) room l6;refine (SN la lb lr Kh hc).elim (λVZ=>ay VZ λhp _=>?_) (λB_=>ay B_ λhp vX=>?_)
   ·refine aw (Od (n:=n+1) (d:=w z') (ts:=λj=>(l2.getD j (0,0)).1) (ro:=ro) b2.t rm hp) λr aB d1 d2 d3=>?_;rw [<-Bj (b3.trans a2)] at d1 d3;refine ⟨r,.t (iC ne fe rs tl) λj=>(l.getD j (0,0)).1,z',aB,go l l2 z' r aj aB _ false a1 b1 l5 d1 (PO hp) (.inr ⟨rfl,by show V.tup [_,.list ((bY _ _).map bV)]=_;exact (Bj a2)▸rfl⟩),(b2.trans d2).mono l6,λd=>⟨λj=>(l2.getD j (0,0)).1,ro,?_,hp,za,λj hj=>(b4 j (lL hj (Nat.le_of_eq ll.symm))).up d2.pre⟩,.t _ _ hp,_,d3,.inr rfl⟩;rw [d3,<-Bj (b3.trans a2)]
   ·rw [hp] at a2;have YX:=b3.trans a2;refine bc λpK=>aq (GS a2) λmk q1 q2=>aq (GS YX) λek q3 q4=>?_;obtain ⟨m,k⟩:=mk;obtain ⟨e,k2⟩:=ek;replace q2:k=2:=q2;replace q4:k2=2:=q4;subst q1 q2 q3 q4;refine aw (Oc (n:=n+1) (d:=w z') (e:=e) (ro:=ro) b2.t rm) λr aB d1 d2 d3=>pK ?_;exact ⟨r,.l m,z',aB,go _ _ z' r aj aB _ true a1 b1 (show 1<=5 by decide) d1 (by rw [hp];kernel_rfl) (.inl ⟨rfl,vX,m,rfl,rfl⟩),(b2.trans d2).mono (show 11*1+1<=60 by decide),λd=>⟨e,ro,d3,za,(b4 0 (show 0<1 by decide)).up d2.pre⟩,.l m,_,d3,.inl rfl⟩
  have m1:=yu (x:=0) (k:=ne) ((lL ‹_› (nl rfl)));have m2:=yu (x:=1) (k:=fe) (lL lb (nl rfl));have a1:=C8 (a:=List.replicate ne 0) (b:=List.replicate fe 1) (by simp only [List.length_replicate];exact nT (Nat.add_le_add (Nat.le_of_lt la) (Nat.le_of_lt lb)) (nl rfl));have m3:=yu (x:=2) (k:=rs) (lL lr (nl rfl));have a2:=C8 (a:=List.replicate ne 0++List.replicate fe 1) (b:=List.replicate rs 2) (by simp only [List.length_replicate,List.length_append];exact nT (Nat.add_le_add (Nat.add_le_add (Nat.le_of_lt la) (Nat.le_of_lt lb)) (Nat.le_of_lt lr)) (nl rfl));have m4:=λ{tl:Nat}(h:tl<2)=>yu (x:=0) (k:=tl) (lL h (nl rfl));have a3:=λ{tl:Nat}(h:tl<2)=>C8 (a:=List.replicate ne 0++List.replicate fe 1++List.replicate rs 2) (b:=List.replicate tl 0) (by simp only [List.length_replicate,List.length_append];exact nT (Nat.add_le_add (Nat.add_le_add (Nat.add_le_add (Nat.le_of_lt la) (Nat.le_of_lt lb)) (Nat.le_of_lt lr)) (Nat.le_of_lt h)) (nl rfl));have f1:=λ{tl:Nat}(h:tl<2)=>gT (n:=((iC ne fe rs tl).map I).length) (by rw [lM];have:=GQ la lb lr h;exact nT ‹_› (nl rfl));by_cases hc:rs=1/\fe=0
  ·rw [dT hc.1] at r1;rw [dT hc.2] at f0;refine rest (tl:=tl) (z:=y/3/2/2/2) lt' (.inr hc) λl l2 z' r aj aB v mk c1 c2 hl ct em hv=>?_;have m4:=m4 lt';have a3:=a3 lt';have f1:=f1 lt';have f2:=gT (n:=(l.map bV).length) (by rw [lM];exact nT hl (nl rfl));rcases hv with⟨rfl,_,m,rfl,rfl⟩|⟨rfl,rfl⟩
   ·exact aa [.r p1,.r p2,.b e3,.r p3,.r p4,.r p5,.b r1,.b f0,.r p6,.l m1,.l m2,.l a1,.l m3,.l a2,.l m4,.l a3,.z 1,.g f1,.c c1,.z 2,.c c2,.r ct,.b em,.z 2]
   ·exact aa [.r p1,.r p2,.b e3,.r p3,.r p4,.r p5,.b r1,.b f0,.r p6,.l m1,.l m2,.l a1,.l m3,.l a2,.l m4,.l a3,.z 1,.g f1,.c c1,.z 1,.g f2,.c c2,.r ct,.b em]
  ·refine rest (tl:=0) (z:=y/3/2/2) (by decide) (.inl rfl) λl l2 z' r aj aB v mk c1 c2 hl ct em hv=>?_;have m4:=m4 (show 0<2 by decide);have a3:=a3 (show 0<2 by decide);have f1:=f1 (show 0<2 by decide);have f2:=gT (n:=(l.map bV).length) (by rw [lM];exact nT hl (nl rfl));rcases hv with⟨_,vX,_⟩|⟨rfl,rfl⟩
   ·exact absurd vX hc
   ·by_cases H:rs=1
    ·rw [dT H] at r1;rw [dF λe=>hc ⟨H,e⟩] at f0;exact aa [.r p1,.r p2,.b e3,.r p3,.r p4,.r p5,.b r1,.b f0,.l m1,.l m2,.l a1,.l m3,.l a2,.z 1,.l a3,.z 1,.g f1,.c c1,.z 1,.g f2,.c c2,.r ct,.b em]
    ·rw [dF H] at r1;exact aa [.r p1,.r p2,.b e3,.r p3,.r p4,.r p5,.b r1,.l m1,.l m2,.l a1,.l m3,.l a2,.z 1,.l a3,.z 1,.g f1,.c c1,.z 1,.g f2,.c c2,.r ct,.b em]
end
structure L8 where
 nm:LV
 a:LV
 oa:LV
 cP:LV
 b:LV
 ob:LV
 wi:LV
 br:LV
noncomputable def u8:L8:=⟨.unset,.unset,.unset,.unset,.unset,.unset,.unset,.unset⟩
noncomputable def il (one other:V)(bw:Hf)(r:L8)(cs side:LV)(σ:St):X:=⟨ez (199,0),[nv "one" (.val one),nv "other" (.val other),nv "held" (.md (sd fv bw)),(.ofString "name",r.nm),(.ofString "a",r.a),(.ofString "opt_a",r.oa),(.ofString "hid",r.cP),(.ofString "b",r.b),(.ofString "opt_b",r.ob),(.ofString "wide",r.wi),(.ofString "broad",r.br),(.ofString "cells",cs),(.ofString "side",side)],σ⟩
section
variable{n:Nat} {σ:St} {A B:Ob}
def yv (a b:Nat):blt .min [I a,I b]=some (.val (I (min a b))):=by
 show some (LV.val (.int (cond (decide (b<(a:Int))) b a)))=_;by_cases h:b<a
 ·rw [dT (by exact Int.ofNat_le.mpr ‹_›),Nat.min_eq_right ((Nat.le_of_lt ‹_›))];rfl
 ·rw [dF (HI h),Nat.min_eq_left ((Nat.not_lt.mp ‹_›))];rfl
def HD {α:Type}{f:α->V}{S:List (Str×α)}(h:∀e∈S,cO e.1){x:Str}(Y:cO x):aN .NotIn (.str x) (.md (sd f S))=some (!(S.lookup x).isSome):=by
 show((dh (sd f S) (.str x)).map Option.isSome).map not=_;refine (xB Y h).symm▸?_
 cases S.lookup x<;>rfl
def V0 {h:Hf}{a:Fi}(g:GH h){x:Str}(Y:cO x)(ha:h.lookup x=some a):cz (.md (sd fv h)) (.str x)=some (fv a):=tV g Y ha
def Rx {bw:Hf}{x:Str}{a b:Fi}{r:L8}(gH:GH bw)(gB:GH B.f)(Y:x∈c7)(ea:bw.lookup x=some a)(eb:B.f.lookup x=some b):
  ∃r',(k7 (wide a.opt a.m) (wide b.opt b.m)=true/\∀Z,aZ n 11 (199,0) 0 (.str x) (il (aV (.o A)) (aV (.o B)) bw r .unset .unset σ) Z=Z (.ret (.val (.tup [.str "w",.int 2]))) (il (aV (.o A)) (aV (.o B)) bw r' .unset .unset σ))\/
   (k7 (wide a.opt a.m) (wide b.opt b.m)=false/\∀Z,aZ n 11 (199,0) 0 (.str x) (il (aV (.o A)) (aV (.o B)) bw r .unset .unset σ) Z=Z .next (il (aV (.o A)) (aV (.o B)) (dQ x ⟨iT a b,a.opt&&b.opt,false⟩ bw) r' .unset .unset σ)):=by
 have hi:=HD (f:=fv) gH.ok (eM Y);rw [ea] at hi;have s1:=V0 gH (eM Y) ea;have s2:=tV gB (eM Y) eb;have hl:=gH.len;have pt:=xC (f:=fv) (v:=⟨iT a b,a.opt&&b.opt,false⟩) (eM Y) gH.ok ((nT ‹_› (nl rfl)));obtain ⟨am,ao,ah⟩:=a;obtain ⟨bm,bo,bh⟩:=b;have wa:=DL am;have wb:=DL bm;have ab:=eA am bm;have key:∀(W B'),∃c,k7 W B'=c/\(c=true/\aN .Lt (I (min W B')) (.val (.int 256))=some true/\aN .Eq (I (W&&&B')) (.val (.int 0))=some true\/c=false/\(aN .Lt (I (min W B')) (.val (.int 256))=some false\/aN .Lt (I (min W B')) (.val (.int 256))=some true/\aN .Eq (I (W&&&B')) (.val (.int 0))=some false)):=λW B'=>by
  have lt:aN .Lt (I (min W B')) (.val (.int 256))=some (decide (W<256\/B'<256)):=(yR _ _).trans (congrArg some (decide_eq_decide.mpr (XU)));have eq:=dx (W&&&B') 0;by_cases H:W<256\/B'<256
  ·rw [dT H] at lt;by_cases M:W&&&B'=0
   ·rw [dT M] at eq;exact ⟨true,dT ⟨H,M⟩,.inl (bx rfl lt eq)⟩
   ·rw [dF M] at eq;exact ⟨false,dF λh=>M h.2,.inr ⟨rfl,.inr ⟨lt,eq⟩⟩⟩
  ·replace lt:=(dF H)▸lt;exact ⟨false,dF λh=>H h.1,.inr ⟨rfl,.inl lt⟩⟩
 induction ao with
 |true=>
  induction bo with
  |true=>
   refine aq (key (am|||64) (bm|||64)) λc hc h=>?_;have mn:=yv (am|||64) (bm|||64);have an:=eA (am|||64) (bm|||64);rcases h with⟨rfl,l,e⟩|⟨rfl,l|⟨l,e⟩⟩
   ·exact ⟨⟨.val (.str x),.val (I am),.val (.bool true),.val (.bool bh),.val (I bm),.val (.bool true),.val (I (am|||64)),.val (I (bm|||64))⟩,.inl ⟨hc,aX [.b hi,.v s1,.z 1,.v s2,.l wa,.l wb,.l mn,.b l,.l an,.b e]⟩⟩
   ·exact ⟨⟨.val (.str x),.val (I am),.val (.bool true),.val (.bool bh),.val (I bm),.val (.bool true),.val (I (am|||64)),.val (I (bm|||64))⟩,.inr ⟨hc,aX [.b hi,.v s1,.z 1,.v s2,.l wa,.l wb,.l mn,.b l,.l ab,.z 1,.e pt]⟩⟩
   ·exact ⟨⟨.val (.str x),.val (I am),.val (.bool true),.val (.bool bh),.val (I bm),.val (.bool true),.val (I (am|||64)),.val (I (bm|||64))⟩,.inr ⟨hc,aX [.b hi,.v s1,.z 1,.v s2,.l wa,.l wb,.l mn,.b l,.l an,.b e,.l ab,.z 1,.e pt]⟩⟩
  |false=>
   refine aq (key (am|||64) bm) λc hc h=>?_;have mn:=yv (am|||64) bm;have an:=eA (am|||64) bm;rcases h with⟨rfl,l,e⟩|⟨rfl,l|⟨l,e⟩⟩
   ·exact ⟨⟨.val (.str x),.val (I am),.val (.bool true),.val (.bool bh),.val (I bm),.val (.bool false),.val (I (am|||64)),.val (I bm)⟩,.inl ⟨hc,aX [.b hi,.v s1,.z 1,.v s2,.l wa,.l mn,.b l,.l an,.b e]⟩⟩
   ·exact ⟨⟨.val (.str x),.val (I am),.val (.bool true),.val (.bool bh),.val (I bm),.val (.bool false),.val (I (am|||64)),.val (I bm)⟩,.inr ⟨hc,aX [.b hi,.v s1,.z 1,.v s2,.l wa,.l mn,.b l,.l an,.z 1,.e pt]⟩⟩
   ·exact ⟨⟨.val (.str x),.val (I am),.val (.bool true),.val (.bool bh),.val (I bm),.val (.bool false),.val (I (am|||64)),.val (I bm)⟩,.inr ⟨hc,aX [.b hi,.v s1,.z 1,.v s2,.l wa,.l mn,.b l,.l an,.b e,.l an,.z 1,.e pt]⟩⟩
 |false=>
  induction bo with
  |true=>
   refine aq (key am (bm|||64)) λc hc h=>?_;have mn:=yv am (bm|||64);have an:=eA am (bm|||64);rcases h with⟨rfl,l,e⟩|⟨rfl,l|⟨l,e⟩⟩
   ·exact ⟨⟨.val (.str x),.val (I am),.val (.bool false),.val (.bool bh),.val (I bm),.val (.bool true),.val (I am),.val (I (bm|||64))⟩,.inl ⟨hc,aX [.b hi,.v s1,.z 1,.v s2,.l wb,.l mn,.b l,.l an,.b e]⟩⟩
   ·exact ⟨⟨.val (.str x),.val (I am),.val (.bool false),.val (.bool bh),.val (I bm),.val (.bool true),.val (I am),.val (I (bm|||64))⟩,.inr ⟨hc,aX [.b hi,.v s1,.z 1,.v s2,.l wb,.l mn,.b l,.l an,.z 1,.e pt]⟩⟩
   ·exact ⟨⟨.val (.str x),.val (I am),.val (.bool false),.val (.bool bh),.val (I bm),.val (.bool true),.val (I am),.val (I (bm|||64))⟩,.inr ⟨hc,aX [.b hi,.v s1,.z 1,.v s2,.l wb,.l mn,.b l,.l an,.b e,.l an,.z 1,.e pt]⟩⟩
  |false=>
   obtain ⟨c,hc,h⟩:=key am bm;have mn:=yv am bm;rcases h with⟨rfl,l,e⟩|⟨rfl,l|⟨l,e⟩⟩
   ·exact ⟨⟨.val (.str x),.val (I am),.val (.bool false),.val (.bool bh),.val (I bm),.val (.bool false),.val (I am),.val (I bm)⟩,.inl ⟨hc,aX [.b hi,.v s1,.z 1,.v s2,.l mn,.b l,.l ab,.b e]⟩⟩
   ·exact ⟨⟨.val (.str x),.val (I am),.val (.bool false),.val (.bool bh),.val (I bm),.val (.bool false),.val (I am),.val (I bm)⟩,.inr ⟨hc,aX [.b hi,.v s1,.z 1,.v s2,.l mn,.b l,.l ab,.z 1,.e pt]⟩⟩
   ·exact ⟨⟨.val (.str x),.val (I am),.val (.bool false),.val (.bool bh),.val (I bm),.val (.bool false),.val (I am),.val (I bm)⟩,.inr ⟨hc,aX [.b hi,.v s1,.z 1,.v s2,.l mn,.b l,.l ab,.b e,.l ab,.z 1,.e pt]⟩⟩
end
section
variable{n:Nat} {σ:St} {A B:Ob}
noncomputable def Jw (F:Str->Option Fi)(B l:Hf)(x:Str):Option Fi:=if x∈l.map (·.1) then mF (F x) (B.lookup x) else F x
def Ry (gB:GH B.f):∀{l:Hf}{bw:Hf}{r:L8},GH bw->(l.map (·.1)).Nodup->(∀e∈l,e.1∈c7/\B.f.lookup e.1=some e.2)->
  ∃r' H',((∃e∈l,mv (bw.lookup e.1) (B.f.lookup e.1)=true)/\∀Z,cF n 11 (199,0) 0 (l.map λe=>.str e.1) (il (aV (.o A)) (aV (.o B)) bw r .unset .unset σ) Z=Z (.ret (.val (.tup [.str "w",.int 2]))) (il (aV (.o A)) (aV (.o B)) H' r' .unset .unset σ))\/
   ((¬∃e∈l,mv (bw.lookup e.1) (B.f.lookup e.1)=true)/\GH H'/\(∀x,H'.lookup x=Jw (bw.lookup ·) B.f l x)/\∀Z,cF n 11 (199,0) 0 (l.map λe=>.str e.1) (il (aV (.o A)) (aV (.o B)) bw r .unset .unset σ) Z=Z .next (il (aV (.o A)) (aV (.o B)) H' r' .unset .unset σ)):=by
 intro z_
 induction z_ with
 |nil=>intro bw r g _ _;exact dB r bw (.inr (eQ (λfj=>aq fj λe h _=>(cj h)) g (λx=>(if_neg (λh=>(cj h))).symm) (dk (by kernel_rfl))))
 |cons e l ak=>
  intro bw r g nd hl;(have rW:=(hl e mS);have Y:=rW.1;have hb:=rW.2);have step:(∃r1 c,mv (bw.lookup e.1) (B.f.lookup e.1)=true/\c=(mF (bw.lookup e.1) (B.f.lookup e.1))/\∀Z,aZ n 11 (199,0) 0 (.str e.1) (il (aV (.o A)) (aV (.o B)) bw r .unset .unset σ) Z=Z (.ret (.val (.tup [.str "w",.int 2]))) (il (aV (.o A)) (aV (.o B)) bw r1 .unset .unset σ))\/
    ∃r1 c fl,mv (bw.lookup e.1) (B.f.lookup e.1)=false/\some c=mF (bw.lookup e.1) (B.f.lookup e.1)/\(fl=.next\/fl=.cont)/\∀Z,aZ n 11 (199,0) 0 (.str e.1) (il (aV (.o A)) (aV (.o B)) bw r .unset .unset σ) Z=Z fl (il (aV (.o A)) (aV (.o B)) (dQ e.1 c bw) r1 .unset .unset σ):=by
   generalize ea:bw.lookup e.1=z_;induction z_ with
   |none=>have hi:=HD (f:=fv) g.ok (eM Y);rw [ea] at hi;have hlen:=g.len;exact .inr (fB ⟨.val (.str e.1),r.a,r.oa,r.cP,r.b,r.ob,r.wi,r.br⟩ e.2 .cont rfl hb.symm (.inr rfl) (aX [.b hi,.z 1,.v (tV gB (eM Y) hb),.e (xC (f:=fv) (v:=e.2) (eM Y) g.ok ((nT ‹_› (nl rfl))))]))
   |some a=>
    obtain ⟨r1,h⟩:=Rx (σ:=σ) (r:=r) g gB Y ea hb;refine hb.symm▸?_;rcases h with⟨hc,ht⟩|⟨hc,ht⟩
    ·exact .inl (aD r1 _ hc rfl ht)
    ·exact .inr (fB r1 _ .next hc rfl (.inl rfl) ht)
  rcases step with⟨r1,_,hc,_,ht⟩|⟨r1,c,fl,hc,hm,qh,ht⟩
  ·exact dB r1 bw (.inl ⟨(af e mS hc),j0 (by kernel_rfl) ht⟩)
  ·have go:∀{iJ:Fl}{x':X},(∀Z,cF n 11 (199,0) 0 (l.map λe=>.str e.1) (il (aV (.o A)) (aV (.o B)) (dQ e.1 c bw) r1 .unset .unset σ) Z=Z iJ x')->∀Z,cF n 11 (199,0) 0 ((e::l).map λe=>.str e.1) (il (aV (.o A)) (aV (.o B)) bw r .unset .unset σ) Z=Z iJ x':=λh=>by
    rcases qh with rfl|rfl
    ·exact cD ht h
    ·exact zD ht h
   have same:∀y∈l,(dQ e.1 c bw).lookup y.1=bw.lookup y.1:=λy hy=>by rw [wO,if_neg λq=>(nE nd).1 (kE (af y hy q))]
   refine c9 (ak (r:=r1) (g.put (h:=(by assumption)) Y c) (nE nd).2 λy hy=>hl y (aT _ hy)) λr' H' h=>dB r' H' (h.imp (λh=>⟨h.1.elim λy h=>(af y (aT _ h.1) (same y h.1▸h.2)),go h.2⟩) λh=>(eQ (λV1=>aq V1 λy hy q=>?_) h.2.1 (λx=>?_) (go h.2.2.2)))
   ·rcases mE hy with rfl|hy
    ·replace q:=hc▸q;exact aS q
    ·exact h.1 (af y hy (by refine (same y hy).symm▸?_;exact q))
   ·rw [h.2.2.1];show(if x∈l.map (·.1) then mF ((dQ e.1 c bw).lookup x) _ else(dQ e.1 c bw).lookup x)=(if x∈e.1::l.map (·.1) then mF (bw.lookup x) _ else bw.lookup x);refine wO.symm▸?_;by_cases q:x=e.1
    ·rw [if_neg (q▸(nE nd).1),if_pos q,if_pos (q▸mS),q,hm]
    ·rw [if_neg q];by_cases q2:x∈l.map (·.1)
     ·rw [if_pos q2,if_pos (aT _ q2)]
     ·rw [if_neg q2,if_neg λh=>(mE h).elim q q2]
def Jx (a b:Option Nat)(h:a=none\/b=none):blt .max [cw a,cw b]=some (.val (cw (gz a b))):=by
 induction a with
 |none=>induction b with
  |none=>rfl
  |some b=>show some (LV.val (.int (cond (decide ((-1)<(b:Int))) b (-1))))=_;refine (dT ((Int.natCast_nonneg _):(-1:Int)<(b:Int))).symm▸?_;rfl
 |some a=>induction b with
  |none=>show some (LV.val (.int (cond (decide (a<(-1:Int))) (-1) a)))=_;refine (dF ((Int.not_lt.mpr (Int.natCast_nonneg _)):¬(a:Int)< -1)).symm▸?_;rfl
  |some b=>exact h.elim (λh=>nomatch h) λh=>nomatch h
def Ki (o:Option Nat):aN .Lt (cw o) (.val (.int 0))=some (!o.isSome):=by
 refine (yR (dA o) 0).trans (congrArg some ?_)
 induction o with
 |none=>exact dT (by decide)
 |some m=>exact dF (by show¬(m:Int)<0;exact Int.not_lt.mpr (Int.natCast_nonneg _))
def GW {bw:Hf}{r:L8}{cs:List V}{a b:Option Nat}{k:Nat}{sd':LV}(hl:cs.length<=10)(e1:cz (.val (aV (.o A))) (I k)=some (cw a))(e2:cz (.val (aV (.o B))) (I k)=some (cw b)):
  ∃r',∀Z,aZ n 11 (199,0) 1 (I k) (il (aV (.o A)) (aV (.o B)) bw r (.ml cs) sd' σ) Z=Z .next (il (aV (.o A)) (aV (.o B)) bw r' (.ml (cs++[cw (gz a b)])) (.val (I k)) σ):=by
 have la:=Ki a;have lb:=Ki b;have g:=λv=>nU (xs:=cs) (v:=v) ((nT ‹_› (nl rfl)));refine eg ⟨r.nm,.val (cw a),r.oa,r.cP,.val (cw b),r.ob,r.wi,r.br⟩ ?_
 induction a with
 |none=>exact aX [.v e1,.v e2,.b la,.l (Jx none b (.inl rfl)),.s (g (cw (gz none b)))]
 |some a=>induction b with
  |none=>exact aX [.v e1,.v e2,.b la,.b lb,.l (Jx (some a) none (.inr rfl)),.s (g (cw (gz (some a) none)))]
  |some b=>have an:fy .BitAnd (cw (some a)) (cw (some b))=some (.val (cw (gz (some a) (some b)))):=eA a b;exact aX [.v e1,.v e2,.b la,.b lb,.l an,.s (g (cw (gz (some a) (some b))))]
def GX {h:Hf}(g:GH h):blt .dict [hv h]=some (.md (sd fv h)):=by have hl:=g.len;show guard (aY (sd fv h).length&&(eo (sd fv h) (.int 0)||eo (sd fv h) (.str ⟨#[]⟩))) (some (LV.md (sd fv h)))=_;rw [Ae g.ok,Bool.or_true,Bool.and_true,dy (by delta sd;rw [lM];exact nT ‹_› (nl rfl))];rfl
def LK (gA:GH A.f)(gB:GH B.f):jG A.f B.f/\ae (n+1) (199,0) [aV (.o A),aV (.o B)] σ=sv (.tup [.str "w",.int 2]) σ\/¬jG A.f B.f/\∃bj,rr A B bj/\GH bj.f/\ae (n+1) (199,0) [aV (.o A),aV (.o B)] σ=sv (aV (.o bj)) σ:=by
 refine c9 (Ry (n:=n) (σ:=σ) (A:=A) gB (bw:=A.f) (r:=u8) gA gB.nd λe he=>⟨gB.nm e he,nJ gB.nd he⟩) λr1 bw h=>?_;have cl:(∃e∈B.f,mv (A.f.lookup e.1) (B.f.lookup e.1)=true)↔jG A.f B.f:=⟨λuo=>aq uo λe _ h=>⟨e.1,h⟩,λV2=>aM V2 λx h=>by
  generalize e:B.f.lookup x=z_;induction z_ with
  |none=>replace h:=e▸h;generalize e2:A.f.lookup x=z_;induction z_<;>rw [e2] at h<;>exact aS h
  |some b=>exact (af (x,b) (jd e) h)⟩
 refine h.elim (λBS=>ay BS λhc hl=>?_) (λue=>jm ue λhc gH hH hl=>?_)
 ·exact .inl ⟨cl.mp hc,aa [.z 1,.l (GX gA),.z 1,.s (congrArg some (List.map_map):bA (hv B.f)=some (B.f.map λe=>.str e.1)),.f hl]⟩
 ·obtain ⟨r2,t1⟩:=GW (σ:=σ) (B:=B) (r:=r1) (cs:=[]) (k:=2) (sd':=.unset) (b:=B.s) (lZ _) rfl rfl;refine aM (GW (n:=n) (σ:=σ) (B:=B) (bw:=bw) (r:=r2) (cs:=[cw (gz A.s B.s)]) (k:=3) (sd':=.val (I 2)) (a:=A.c) (show 1<=10 by decide) rfl rfl) λr3 t2=>.inr ⟨λh=>hc (cl.mpr h),⟨bw,gz A.s B.s,gz A.c B.c⟩,⟨λx=>?_,rfl,rfl⟩,gH,aa [.z 1,.l (GX gA),.z 1,.s (congrArg some (List.map_map):bA (hv B.f)=some (B.f.map λe=>.str e.1)),.f hl,.z 1,.f (cD t1 (cD t2 (dk (by kernel_rfl)))),.v (p0 (cw (gz A.s B.s)) (cw (gz A.c B.c))),.v (p7 (cw (gz A.s B.s)) (cw (gz A.c B.c)))]⟩;rw [hH];delta Jw;by_cases q:x∈B.f.map (·.1)
  ·rw [if_pos q]
  ·rw [if_neg q];generalize e:B.f.lookup x=z_;induction z_ with
   |some b=>exact absurd (mM (jd e)) q
   |none=>show A.f.lookup x=_;cases A.f.lookup x<;>rfl
end
section
variable{n s t:Nat} {G:List Row} {d:Sh} {A B O bj:Ob} {U qs:List Pr} {a1 a2 b1 b2:Option (Nat×Nat)}
def b9.uniq (d:Sh)(h:au G){p:Pr}{a b:Fi}(x:b9 G p a)(y:b9 G p b):a=b:=by
 have e1:a.m=b.m:=oT d Gv h x.v y.v;have e3:a.cP=b.cP:=by have:=x.yV.symm.trans y.yV;simpa using this
 obtain ⟨am,ao,ah⟩:=a;obtain ⟨bm,bo,bh⟩:=b;subst e1;obtain rfl:=(x.opt.symm.trans y.opt);subst e3;rfl
def both.uniq {α β:Type}{R:α->β->Prop}(h:∀a b c,R a b->R a c->b=c){a:Option α}{b c:Option β}(x:both R a b)(y:both R a c):b=c:=by
 induction a with
 |none=>cases b<;>cases c<;>first|rfl|exact x.elim|exact y.elim
 |some a=>induction b with
  |none=>exact x.elim
  |some b=>induction c with
   |none=>exact y.elim
   |some c=>exact congrArg some (h a b c x y)
def GY (d:Sh)(h:au G)(oa:cK G t A U a1 a2)(ob:cK G t B qs b1 b2):(∀x,A.f.lookup x=B.f.lookup x)/\A.s=B.s/\A.c=B.c:=by
 have e:=oa.row.symm.trans ob.row
 cases e
 exact bx (λx=>both.uniq (R:=b9 G) (λp a b=>b9.uniq d h) (oa.fs x) (ob.fs x)) (both.uniq (λc m m' x y=>oT d Gv h x y:∀(c:Nat×Nat)(m m':Nat),Val Lv G c.1 m->Val Lv G c.1 m'->m=m') oa.hs ob.hs) (both.uniq (λc m m' x y=>oT d Gv h x y:∀(c:Nat×Nat)(m m':Nat),Val Lv G c.1 m->Val Lv G c.1 m'->m=m') oa.hc ob.hc)
def cK.congr (o:cK G t A U a1 a2)(hf:∀x,B.f.lookup x=A.f.lookup x)(hs:B.s=A.s)(hc:B.c=A.c):cK G t B U a1 a2:=⟨o.row,o.gp,λx=>by rw [hf];exact o.fs x,hs▸o.hs,hc▸o.hc⟩
def PQ (hf:∀x,B.f.lookup x=A.f.lookup x)(hs:B.s=A.s)(hc:B.c=A.c)(x:Str):B.at x=A.at x:=by delta Ob.at;rw [hf,hs,hc]
def Oe (hf:∀x,B.f.lookup x=A.f.lookup x)(hs:B.s=A.s)(hc:B.c=A.c):eB B=eB A:=by delta eB;exact (funext hf).symm▸hs.symm▸hc.symm▸rfl
def F7 (h:au G)(o:cK G 11 A U a1 a2):(∀x,A.f.lookup x=none)/\A.s=none/\A.c=none:=by
 have e:G[11]?=some (.obj [] none none):=bg h.pre rfl;have e:=o.row.symm.trans e
 cases e
 have nn:∀{α β:Type}{R:α->β->Prop}{b:Option β},both R none b->b=none:=λ{α β R b} h=>by induction b with
  |none=>rfl
  |some b=>exact h.elim
 exact bx (λx=>nn (o.fs x)) (nn o.hs) (nn o.hc)
def Rz {o:Bool}{m:Nat}(h:m≠0):wide o m≠0:=by
 induction o with
 |true=>exact vh m
 |false=>exact h
def Og (a:Fi):iT a a=a.m:=by
 delta iT;generalize h:a.opt=z_;induction z_ with
 |true=>rw [if_pos ⟨rfl,rfl⟩,Nat.and_self]
 |false=>rw [if_neg λh=>gi h.1];exact Nat.and_self _
def PR {r:Nat}(h:au G)(oa:cK G s A U a1 a2)(ob:cK G t B qs b1 b2)(pa:A.plain)(pb:B.plain)(m:nS G s t r A B):
  (jG A.f B.f->r=2)/\(¬jG A.f B.f->∀bj,rr A B bj->dG G d r bj):=by
 rcases m with⟨hc,_,_,_,e⟩|⟨rfl,rfl⟩|⟨rfl,rfl⟩|⟨rfl,rfl⟩|⟨hc,_,_,hk⟩
 ·exact ⟨λ_=>e,λh=>absurd hc h⟩
 ·have u:=GY d h oa ob;refine ⟨λ⟨x,Y⟩=>?_,λ_ bj hM=>.obj (iP _ _ _ (oa.congr (λx=>?_) ?_ ?_))⟩
  ·rw [<-u.1] at Y;generalize e:A.f.lookup x=z_;induction z_ with
   |none=>replace Y:=e▸Y;exact aS Y
   |some a=>rw [e] at Y;have Y:=(cS Y).2;rw [Nat.and_self] at Y;exact absurd Y (Rz (pa _ _ e).1)
  ·rw [hM.f,<-u.1];generalize e:A.f.lookup x=z_;induction z_ with
   |none=>rfl
   |some a=>show some ⟨iT a a,a.opt&&a.opt,false⟩=some a;rw [Og,Bool.and_self,<-(pa _ _ e).2]
  ·refine hM.s.symm▸u.2.1▸?_;induction A.s with
   |none=>rfl
   |some m=>exact congrArg some (Nat.and_self m)
  ·refine hM.c.symm▸u.2.2▸?_;induction A.c with
   |none=>rfl
   |some m=>exact congrArg some (Nat.and_self m)
 ·have e:=F7 h oa;refine ⟨λ⟨x,Y⟩=>?_,λ_ bj hM=>.obj (iP _ _ _ (ob.congr (λx=>?_) ?_ ?_))⟩
  ·rw [e.1] at Y;exact aS Y
  ·rw [hM.f,e.1];rfl
  ·refine hM.s.symm▸e.2.1.symm▸?_;rfl
  ·refine hM.c.symm▸e.2.2.symm▸?_;rfl
 ·have e:=F7 h ob;refine ⟨λ⟨x,Y⟩=>?_,λ_ bj hM=>.obj (iP _ _ _ (oa.congr (λx=>?_) ?_ ?_))⟩
  ·rw [e.1] at Y;generalize M:A.f.lookup x=z_;induction z_<;>rw [M] at Y<;>exact aS Y
  ·rw [hM.f,e.1];cases A.f.lookup x<;>rfl
  ·refine hM.s.symm▸e.2.1.symm▸?_;cases A.s<;>rfl
  ·refine hM.c.symm▸e.2.2.symm▸?_;cases A.c<;>rfl
 ·exact ⟨λh=>absurd h hc,λ_ bj hM=>.inter s t A B ⟨hk,(iP _ _ _ oa),(iP _ _ _ ob),pa,pb⟩ hM⟩
structure rL (G:List Row)(s:Nat):Prop where
 at':Atom G s
 st:∀k,G[s]?=some k->fr k=none/\f9 k=-1
def Fn (h:au G){k:Row}(hk:G[s]?=some k)(hr:rk k=8\/rk k=11\/rk k=12):rL G s:=by
 have hf:fr k=none/\g9 k=none/\f9 k=-1:=by cases k<;>first|exact ⟨rfl,rfl,rfl⟩|simp [rk] at hr
 refine ⟨⟨(af k hk hf.2.1),fI λe=>?_⟩,λk' e=>by replace e:=hk▸e;obtain rfl:=oj e;exact ⟨hf.1,hf.2.2⟩⟩;have hl:=pC e;have e2:=bg h.pre (cM hl);rw [hk] at e2;have:(List.range 16).all (λi=>!(mu i&&(dc[i]?).any λk=>decide (rk k=8\/rk k=11\/rk k=12)))=true:=by kernel_rfl
 have:=aE this s (rI hl);rw [e,cM hl,<-oj e2] at this;rw [Option.any_some,Bool.true_and,Bool.not_eq_true',decide_eq_false_iff_not] at this;exact this hr
def EJ (h:TT G)(room:G.length<1000000)(bJ:Atom G s)(pt:Atom G t)(st:∀p,p=s\/p=t->pB G (λp=>p=s\/p=t) p):
  ∃r N,ae (n+3) (86,0) [.obj 0,.list [I s,I t]] (K G d)=sv (I r) (K N d)/\Up G N 1/\(s=t/\r=s\/s≠t/\∃x y,N[r]?=some (.union [x,y])/\(x=s/\y=t\/x=t/\y=s)):=by
 have of:∀p,Of G [s,t] p↔p=s\/p=t:=λp=>⟨λV3=>aq V3 λx Y hp=>by
  rcases mE Y with rfl|Y
  ·replace hp:=(g8 bJ)▸hp;exact .inl (sE hp)
  ·obtain rfl:=sE Y;rw [g8 pt] at hp;exact .inr (sE hp),λe=>by
  rcases e with rfl|rfl
  ·exact af p mS (by rw [g8 bJ];exact mS)
  ·exact (af p (aT _ mS) (by rw [g8 pt];exact mS))⟩
 obtain ⟨r,N,H,M,h3,h4⟩:=td (d:=d) (pv:=.list [I s,I t]) h room rfl (λx Y=>by
  rcases mE Y with rfl|Y
  ·exact bJ.ty
  ·obtain rfl:=sE Y;exact pt.ty) λg hg=>by
  have:=te h.t.nd (A:=[(G[s]?).getD (.param 0),(G[t]?).getD (.param 0)]) hg.nd λp hp=>by
   rcases (of p).mp (hg.all p hp) with rfl|rfl
   ·obtain ⟨k,hk,_⟩:=bJ.row;exact af k (by rw [hk];exact mS) hk
   ·obtain ⟨k,hk,_⟩:=pt.row;exact af k (by rw [hk];exact aT _ mS) hk
  exact Nat.lt_of_le_of_lt this (show 2<64 by decide)
 have mem:∀p,p∈bq N r↔p=s\/p=t:=λp=>by rw [h4,of];rw [show Of G [s,t]=λp=>p=s\/p=t from funext λp=>propext (of p)];exact ⟨(·.1),λe=>⟨e,st p e⟩⟩
 refine aD r N H M ?_;by_cases e:s=t
 ·subst e;refine .inl ⟨rfl,xy M.t h3 (bJ.ty.up M.pre) λp=>?_⟩;rw [mem,tc M.pre bJ.ty.lt,g8 bJ,List.mem_singleton,or_self]
 ·refine .inr ⟨e,(th M.t h3).elim (λV4=>ay V4 λ_ q=>?_) (λuo=>uo.elim (λq=>?_) (λV5=>n9 V5 λl hk q _ hs=>?_))⟩
  ·have:=(mem s).mpr (.inl rfl);rw [q] at this;nomatch this
  ·have m1:=(mem s).mpr (.inl rfl);have m2:=(mem t).mpr (.inr rfl);rw [q,List.mem_singleton] at m1 m2;exact absurd (m1.trans m2.symm) e
  ·have iW:∀{x y:Nat},x<y->(∀p,p∈l↔p=x\/p=y)->l=[x,y]:=λYY hm=>ED hs (List.pairwise_cons.mpr ⟨λa ha=>by obtain rfl:=sE ha;exact YY,List.pairwise_singleton ..⟩) λp=>by rw [hm,List.mem_cons,List.mem_singleton]
   replace mem:=q▸mem;by_cases lt:s<t
   ·exact ax s t (by rw [hk,iW lt mem]) (.inl ⟨rfl,rfl⟩)
   ·exact ax t s (by rw [hk,iW (Nat.lt_of_le_of_ne (Nat.not_lt.mp lt) λh=>e h.symm) λp=>(mem p).trans or_comm]) (.inr ⟨rfl,rfl⟩)
def Oh (h:TT G)(room:G.length<1000000)(bJ:rL G s)(pt:rL G t):
  ∃r N,ae (n+3) (86,0) [.obj 0,.list [I s,I t]] (K G d)=sv (I r) (K N d)/\Up G N 1/\(s=t/\r=s\/s≠t/\∃x y,N[r]?=some (.union [x,y])/\(x=s/\y=t\/x=t/\y=s)):=
 EJ h room bJ.at' pt.at' λp e k hk=>by
  have st:fr k=none/\f9 k=-1:=by
   rcases e with rfl|rfl
   ·exact bJ.st k hk
   ·exact pt.st k hk
  exact ⟨λr hr=>(by replace hr:=st.1▸hr;exact aF hr),λi hi=>(by rw [st.2] at hi;exact uG hi)⟩
end
structure zb (ha hb:Nat)(w:Nat->Nat->Sh):Prop where
 a:∀y,oz ha λx=>w x y
 b:∀x,oz hb λy=>w x y
 hd:∀G x y,cz (hG (.val (.obj ha)) (K G (w x y))) (.int 0)=some (I x)
noncomputable def xj:List Nat:=[0,1,2,3,4,5,10,11,13]
section
variable{n ha hb pick x y:Nat} {G:List Row} {w:Nat->Nat->Sh} {d:Sh} {t:Nat} {O A B:Ob}
def mc.src {hide:Bool}(o:mc G hide t O):eC G d t (.p (.a (.o O)))/\cL (aV (.o O)) (.p (.a (.o O))):=⟨.obj o.at',.o O o.g⟩
def mc.plain (o:mc G false t O):O.plain:=λx a e=>⟨(o.pl x a e).1,(o.pl x a e).2 rfl⟩
def mc.up {N:List Row}{hide:Bool}(u:G<+:N)(o:mc G hide t O):mc N hide t O:=⟨rH u o.at',o.g,o.pl⟩
def Oi (h:au G)(ht:t∈xj):∃F,eC G d t F/\cL (.tup [.str "w",I t]) F:=by
 simp only [xj,List.mem_cons,List.not_mem_nil,or_false] at ht;rcases ht with rfl|rfl|rfl|rfl|rfl|rfl|rfl|rfl|rfl
 ·exact af (.w 0) ⟨rfl,.inl rfl⟩ (.s 0 (.inl rfl))
 ·exact af (.p (.a .n)) (.inl rfl) (.w 1 (.inl rfl))
 ·exact af (.w 2) ⟨rfl,.inr (.inl rfl)⟩ (.s 2 (.inr (.inl rfl)))
 ·exact af (.p (.a .n)) (.inr (.inl rfl)) (.w 3 (.inr (.inl rfl)))
 ·exact af (.p (.a .n)) (.inr (.inr (.inl rfl)):Src G d 4 .n) (.w 4 (.inr (.inr (.inl rfl))))
 ·exact af (.p (.a .n)) (.inr (.inr (.inr rfl)):Src G d 5 .n) (.w 5 (.inr (.inr (.inr rfl))))
 ·exact af (.p (.a (.o ⟨[],none,none⟩))) (.whole rfl (bx rfl rfl rfl)) (.e 10 (.inl rfl))
 ·exact af (.p (.a (.o ⟨[],none,none⟩))) (.obj (iP _ _ _ (⟨bg h.pre rfl,GE.nil,λx=>trivial,trivial,trivial⟩)):dG G d 11 ⟨[],none,none⟩) (.e 11 (.inr rfl))
 ·exact af (.w 13) ⟨rfl,.inr (.inr rfl)⟩ (.s 13 (.inr (.inr rfl)))
def mc.tY {hide:Bool}(h:au G)(o:mc G hide t O):rL G t:=o.at'.elim λ_ H=>H.elim λ_ H=>H.elim λ_ H=>Fn h H.row (.inl rfl)
def y9.tY {p:Sp}(h:au G)(o:y9 G t p):rL G t/\∀k,G[t]?=some k->rk k≠8:=by refine aq o.row λk hk hr=>?_;exact ⟨Fn h hk (.inr hr),λk' e=>by replace e:=hk▸e;obtain rfl:=oj e;exact hr.elim (λq=>iV (Nat.le_of_eq q.symm) rfl) (λq=>iV (Nat.le_of_eq q.symm) rfl)⟩
def Jy {l:List Nat}{i:Nat}(h:i<l.length)(hl:l.length<=1000000):cz (.val (.list (l.map I))) (I i)=some (I (l.getD i 0))/\l.getD i 0∈l:=by
 have e:l[i]?=some (l.getD i 0):=by rw [List.getD_eq_getElem?_getD,cM h];rfl
 exact ⟨nq (by rw [List.getElem?_map,e];rfl) (by rw [lM];exact hl),dU e⟩
def wH {form:Nat}(c:zb ha hb w)(t:TT G)(room:G.length+200<=1000000)(hf:form=0\/form=1\/form=2\/form=3\/form=5):
  ∃r v F x' y' N,ae (n+17) (200,0) [.obj 0,I form,I pick,.obj ha,.obj hb] (K G (w x y))=sv (.tup [I r,v]) (K N (w x' y'))/\Up G N 200/\eC N (w x' y') r F/\cL v F:=by
 have bQ:G.length+60<=1000000:=nT (nA (by decide) _) room;rcases hf with rfl|rfl|rfl|rfl|rfl
 ·exact gJ (nF (n:=n+11) (x:=x) (hide:=true) (c.a y) t bQ) λr O x' N H M h3=>⟨r,_,_,x',y,N,aa [.z 1,.r H],M.mono (by decide),h3.src⟩
 ·exact gJ (GU (n:=n+11) (x:=x) (c.a y) t bQ) λr p x' N H M h3=>⟨r,_,.p (.a p),x',y,N,aa [.z 2,.r H],M.mono (by decide),h3.src _,h3.pv⟩
 ·refine gJ (nF (n:=n+11) (x:=x) (hide:=true) (c.a y) t bQ) λs O x' aj H u1 o1=>?_;have e1:=dx (pick%2) 1;have join:∀{u:Nat}{q:Sp}{y':Nat}{aB:List Row},Up aj aB 60->rL aB u->Src aB (w x' y') u q->cL (aV q) (.p (.a q))->(s=u->(∀x,q.at x=(Sp.o O).at x)/\q.has=(Sp.o O).has)->
    (∀r cC,ae (n+16) (86,0) [.obj 0,.list [I s,I u]] (K aB (w x' y'))=sv (I r) (K cC (w x' y'))->ae (n+17) (200,0) [.obj 0,I 2,I pick,.obj ha,.obj hb] (K G (w x y))=sv (.tup [I r,.tup [.str "u",.list [aV (.o O),aV q]]]) (K cC (w x' y')))->
    ∃r v F x' y' N,ae (n+17) (200,0) [.obj 0,I 2,I pick,.obj ha,.obj hb] (K G (w x y))=sv (.tup [I r,v]) (K N (w x' y'))/\Up G N 200/\eC N (w x' y') r F/\cL v F:=λ{u q y' aB} u2 pu su pq same go=>by
   have o1:=o1.up u2.pre;refine aw (Oh (n:=n+13) (d:=w x' y') u2.t ((u1.trans u2).cJ (m:=1) room (by decide)) (o1.tY u2.t.t) pu) λr cC g1 u3 g3=>⟨r,_,.p (.u (.o O) q),x',y',cC,go r cC g1,((u1.trans u2).trans u3).mono (by decide),?_,.u (.o O) q (.o O o1.g) pq⟩;rcases g3 with⟨e,rfl⟩|⟨_,a,b,hk,⟨rfl,rfl⟩|⟨rfl,rfl⟩⟩
   ·exact .inl ⟨(dG.up u3.pre (.obj o1.at')),same e⟩
   ·exact .inr ⟨_,_,hk,.inl ⟨(dG.up u3.pre (.obj o1.at')),su.up u3.pre⟩⟩
   ·exact .inr ⟨_,_,hk,.inr ⟨su.up u3.pre,(dG.up u3.pre (.obj o1.at'))⟩⟩
  by_cases q:pick%2=1
  ·rw [dT q] at e1;refine gJ (GU (n:=n+11) (x:=y) (c.b x') u1.t (u1.cJ room (by decide))) λu p y' aB M u2 o2=>?_;exact join (y':=y') u2 (o2.tY u2.t.t).1 (o2.src _) o2.pv (λe=>by refine bc λbu=>?_;subst e;refine eU ((o1.up u2.pre).at') λ_ _ _ oa=>bu ?_;exact absurd rfl ((o2.tY u2.t.t).2 _ oa.row)) λr cC g1=>aa [.z 5,.r H,.z 1,.l (dI pick 2 (nl rfl)),.b e1,.r M,.z 1,.r g1]
  ·rw [dF q] at e1;refine gJ (nF (n:=n+11) (x:=y) (hide:=true) (c.b x') u1.t (u1.cJ room (by decide))) λu O2 y' aB M u2 o2=>?_;exact join (y':=y') (q:=.o O2) u2 (o2.tY u2.t.t) (dG.obj o2.at') (.o O2 o2.g) (λe=>by refine bc λV6=>?_;subst e;refine eU ((o1.up u2.pre).at') λ_ _ _ oa=>eU o2.at' λ_ _ _ ob=>V6 ?_;have un:=GY (w x' y') u2.t.t oa ob;exact ⟨λz=>PQ (λz=>(un.1 z).symm) un.2.1.symm un.2.2.symm z,Oe (λz=>(un.1 z).symm) un.2.1.symm un.2.2.symm⟩) λr cC g1=>aa [.z 5,.r H,.z 1,.l (dI pick 2 (nl rfl)),.b e1,.z 1,.r M,.z 1,.r g1]
 ·refine gJ (nF (n:=n+11) (x:=x) (hide:=false) (c.a y) t bQ) λs A x' aj H u1 o1=>bc λV7=>gJ (nF (n:=n+11) (x:=y) (hide:=false) (c.b x') u1.t (u1.cJ room (by decide))) λu B y' aB M u2 o2=>eU ((o1.up u2.pre).at') λ_ _ _ oa=>eU o2.at' λ_ _ _ ob=>aw (NZ (n:=n) (d:=w x' y') (u1.trans u2).t ((u1.trans u2).cJ room (by decide)) oa ob (o1.up u2.pre).plain o2.plain) λr cC h3 u3 m3=>V7 ?_;have K:=PR (d:=w x' y') u3.t.t (oa.up u3.pre) (ob.up u3.pre) (o1.up u2.pre).plain o2.plain m3;have uu:Up G cC 200:=((u1.trans u2).trans u3).mono (by decide);rcases LK (n:=n+15) (σ:=Mine.K cC (w x' y')) o1.g o2.g with⟨hc,hm⟩|⟨hc,bj,hM,gM,hm⟩
  ·exact ⟨r,_,.w 2,x',y',cC,aa [.z 5,.r H,.z 2,.r M,.z 1,.r h3,.r hm],uu,⟨K.1 hc,.inr (.inl rfl)⟩,.s 2 (.inr (.inl rfl))⟩
  ·exact ⟨r,_,.p (.a (.o bj)),x',y',cC,aa [.z 5,.r H,.z 2,.r M,.z 1,.r h3,.r hm],uu,K.2 hc bj hM,.o bj gM⟩
 ·have sb:=Jy (l:=xj) (i:=x%9) (Nat.mod_lt _ (by decide)) (nl rfl);generalize xj.getD (x%9) 0=au at sb;exact aq (Oi (d:=w x y) t.t sb.2) λF H M=>⟨au,_,F,x,y,G,aa [.z 5,.v (c.hd G x y),.l (dI x 9 (by decide)),.v sb.1],(Up.refl t).mono (lZ _),H,M⟩
end
section
variable(n d:Nat) (i:Nat×Nat) (k lo len:Nat)
noncomputable def j4:List Stmt:=match gy i k with
 |some f=>(f.2.drop lo).take len
 |none=>[]
noncomputable def cW (x:X):(Fl->X->Kt)->Kt:=fg (ex (ae n) (f_ (ae n)) d) (j4 i k lo len) x
noncomputable def V8 (x:X):Tr (Fl×X):=kL (tx (R:=Fl×X) (ae n) (f_ (ae n)) d) (j4 i k lo len) x λfl x=>.done (fl,x)
def SO (x:X)(a:List An)(r:Fl×X):Prop:=(V8 n d i k lo len x).ok a r
variable{n d i k lo len}
def fx {x:X}{fl:Fl}{x':X}(l:List As)(e:SO n d i k lo len x (rF l) (fl,x')=uy ((fl,x')=(fl,x')) l:=by kernel_rfl):∀Z,cW n d i k lo len x Z=Z fl x':=λZ=>by exact (qo Dw (g:=λp:Fl×X=>Z p.1 p.2) λfl x=>rfl).trans (Tr.iM (e▸wM rfl l))
def GZ {g:gj}:∀{a b:List Stmt}{x:X}{Z:Fl->X->Kt},fg g (a++b) x Z=fg g a x λfl x=>fl.seq x (fg g b x Z) Z:=by
 intro z_
 induction z_ with
 |nil=>intro b x Z;exact rfl
 |cons s a ak=>
  intro b x Z;refine congrArg (g s x) (funext λfl=>funext λx=>?_)
  induction fl with
  |next=>exact ak
  |_=>rfl
def mf {l1 l2:Nat}{x x1 x2:X}{fl:Fl}(H:∀Z,cW n d i k lo l1 x Z=Z .next x1)(M:∀Z,cW n d i k (lo+l1) l2 x1 Z=Z fl x2):∀Z,cW n d i k lo (l1+l2) x Z=Z fl x2:=λZ=>by
 have e:j4 i k lo (l1+l2)=j4 i k lo l1++j4 i k (lo+l1) l2:=by
  delta j4
  cases gy i k with
  |none=>rfl
  |some f=>show(f.2.drop lo).take (l1+l2)=(f.2.drop lo).take l1++(f.2.drop (lo+l1)).take l2;rw [List.take_add,List.drop_drop]
 delta cW at*;rw [e,GZ];exact (H _).trans (M Z)
def wR {l1 l2:Nat}{x x1:X}{fl:Fl}(hf:fl≠.next)(H:∀Z,cW n d i k lo l1 x Z=Z fl x1):∀Z,cW n d i k lo (l1+l2) x Z=Z fl x1:=λZ=>by
 have e:j4 i k lo (l1+l2)=j4 i k lo l1++j4 i k (lo+l1) l2:=by
  delta j4
  cases gy i k with
  |none=>rfl
  |some f=>show(f.2.drop lo).take (l1+l2)=(f.2.drop lo).take l1++(f.2.drop (lo+l1)).take l2;rw [List.take_add,List.drop_drop]
 delta cW at*;rw [e,GZ];refine (H _).trans ?_
 induction fl with
 |next=>exact absurd rfl hf
 |_=>rfl
def sW {v:V}{x x1:X}{fl:Fl}{L:Nat}{s:Str}(hn:((gy i k).bind λf=>nameOf f.1)=some s)(hl:((gy i k).map λf=>decide (f.2.length<=L))=some true)(Y:x.has s=true)(h:∀Z,cW n d i k 0 L (x.put s (.val v)) Z=Z fl x1):∀Z,aZ n d i k v x Z=Z fl x1:=λZ=>by
 have h:=h Z;unfold cW j4 at h;delta aZ;generalize hf:gy i k=z_;induction z_ with
 |none=>replace hn:=hf▸hn;exact aF hn
 |some f=>rw [hf] at h hn hl;obtain ⟨tg,b⟩:=f;(refine aM (qw hn) λp fj=>?_;subst fj);have hl:b.length<=L:=cS (oj hl);show(guard (x.hasAll [(s,v)]) (fg _ b (x.h_ [(s,v)]) Z))=_;refine (show x.hasAll [(s,v)]=true from by show(x.has s&&true)=true;refine Y.symm▸?_;rfl).symm▸?_;have h:fg (ex (ae n) (f_ (ae n)) d) (b.take L) (x.put s (LV.val v)) Z=Z fl x1:=h;exact (List.take_of_length_le hl)▸h
end
noncomputable def iO (j:Nat):Str:=[Str.ofString "p",.ofString "q",.ofString "0",.ofString "1",.ofString "2",.ofString "length",.ofString "",.ofString "#"].getD j ""
noncomputable def vp (m:Nat):List Nat:=if m.testBit 6=true then[6] else(List.range 8).filter λj=>decide (Ln.bits j&&&m≠0)&&decide (j<6)
noncomputable def g7 (m:Nat):List Nat:=vp m++if m.testBit 7=true then[7] else[]
def HE {m:Nat}(h:fM Ln m)(j:Nat):j∈g7 m↔Ln.on m j:=by
 have Jz:m<256:=h.lt;have key:(List.range 256).all (λm=>(List.range 8).all (λj=>(g7 m).contains j==(m.testBit j&&(Ln.c6 j).all λw=>!m.testBit w))&&(g7 m).all λj=>decide (j<8))=true:=by kernel_rfl
 have key:=aE key m (rI Jz);rw [Bool.and_eq_true] at key;have on:Ln.on m j↔(m.testBit j&&(Ln.c6 j).all λw=>!m.testBit w)=true:=by
  rw [Bool.and_eq_true];refine and_congr_right λ_=>?_
  cases Ln.c6 j with
  |none=>exact ⟨λ_=>rfl,λ_ w hw=>aF hw⟩
  |some w=>exact ⟨λh=>by show(!m.testBit w)=true;refine (h w rfl).symm▸?_;rfl,λh w' hw=>by obtain rfl:=oj hw;have h:(!m.testBit w)=true:=h;simpa using h⟩
 by_cases hj:j<8
 ·have:=bE (aE key.1 j (rI hj));rw [on,<-this,List.contains_iff_mem]
 ·refine ⟨λhm=>absurd (cS (aE key.2 j hm)) hj,λh'=>?_⟩;have:=h'.1;replace this:=(Nat.testBit_lt_two_pow (lL Jz (Nat.pow_le_pow_right (n:=2) (nl rfl) ((Nat.not_lt.mp ‹_›):8<=j))))▸this;exact aS this
def wU {l:List (Option Nat)}:(∃m,b_ l=some m)↔∀o∈l,o.isSome=true:=by
 induction l with
 |nil=>exact ⟨λ_ o h=>(cj h),λ_=>⟨0,rfl⟩⟩
 |cons a l ih=>
  induction a with
  |none=>exact ⟨λeY=>aM eY λm h=>(aF h),λh=>absurd (h none mS) (by decide)⟩
  |some a=>
   refine ⟨λmY o ho=>aM mY λm h=>?_,λh=>?_⟩
   ·rcases mE ho with rfl|ho
    ·rfl
    ·refine ih.mp ?_ o ho;have h:(b_ l).map (a|||·)=some m:=h;generalize e:b_ l=z_;induction z_ with
     |none=>replace h:=e▸h;exact aF h
     |some m'=>exact ⟨m',rfl⟩
   ·obtain ⟨m,hm⟩:=ih.mpr λo ho=>h o (aT _ ho);exact ⟨a|||m,by show(b_ l).map (a|||·)=_;refine hm.symm▸?_;rfl⟩
def G0 {l:List (Option Nat)}{m:Nat}(h:b_ l=some m):m=bC (l.map λo=>o.getD 0):=by
 induction l generalizing m with
 |nil=>obtain rfl:=oj h;rfl
 |cons a l ih=>
  induction a with
  |none=>exact aF h
  |some a=>
   have h:(b_ l).map (a|||·)=some m:=h;generalize e:b_ l=z_;induction z_ with
   |none=>replace h:=e▸h;exact aF h
   |some m'=>replace h:=e▸h;obtain rfl:=oj h;show a|||m'=a|||bC (l.map λo=>o.getD 0);exact (ih e)▸rfl
def RA {l l':List (Option Nat)}(h:∀o,o∈l↔o∈l'):b_ l=b_ l':=by
 generalize e:b_ l=z_;induction z_ with
 |some m=>
  obtain ⟨m',e'⟩:=wU.mpr λo ho=>wU.mp ⟨m,e⟩ o ((h o).mpr ho);refine e'.symm▸(G0 e).symm▸(G0 e').symm▸(congrArg some (zI (λx Y _=>?_) λx Y _=>?_))
  ·(refine bT Y λo ho kJ=>?_;subst kJ);exact mM ((h o).mp ho)
  ·(refine bT Y λo ho eV=>?_;subst eV);exact mM ((h o).mpr ho)
 |none=>
  generalize e':b_ l'=z_;induction z_ with
  |none=>rfl
  |some m'=>obtain ⟨m,e2⟩:=wU.mpr λo ho=>wU.mp ⟨m',e'⟩ o ((h o).mp ho);replace e2:=e▸e2;exact aF e2
def F8 {F:Fu}{xs ys:List Str}(h:∀x,x∈xs↔x∈ys):F.over xs=F.over ys:=by
 induction F with
 |w t=>rfl
 |p P=>refine congrArg dA (RA λo=>?_);rw [List.mem_map,List.mem_map];exact ⟨λpI=>aq pI λx Y e=>(af x ((h x).mp Y) e),λXw=>aq Xw λx Y e=>(af x ((h x).mpr Y) e)⟩
section
variable{n i t m:Nat} {G:List Row} {d:Sh} {l:List (Nat×Str)}
def SP {j:Nat}{k:Row}{p:Nat}(h:au G)(hj:Ln.rows[j]?=some k)(hp:G[p]?=some k):e9 G p (iO j):=by
 have hl:j<8:=(dR hj).1;have:j=0\/j=1\/j=2\/j=3\/j=4\/j=5\/j=6\/j=7:=(JD ‹_›);rcases this with rfl|rfl|rfl|rfl|rfl|rfl|rfl|rfl<;>obtain rfl:=oj hj
 ·exact .str 0 hp (by decide)
 ·exact .str 0 hp (by decide)
 ·exact .str 0 hp (by decide)
 ·exact .str 0 hp (by decide)
 ·exact .str 0 hp (by decide)
 ·exact .str 0 hp (by decide)
 ·exact .string (fZ h.nd hp (bg h.pre rfl)) rfl
 ·exact .number (fZ h.nd hp (bg h.pre rfl)) rfl
def MP (h:TT G)(v:Val Ln G i m):∃l,iB G i l/\∀x,x∈l.map (·.2)↔x∈(g7 m).map iO:=by
 refine bW (Ab Gn h.t v) λjk e H _=>?_;have l8:(bq G i).length<=8:=te h.t.nd (A:=Ln.rows) (Ad h v.ty) λp hp=>by exact aw (v.at' p hp) λj k _ b c=>af k (dU b) c
 refine af (jk.map λy=>(y.1,iO y.2)) ⟨by rw [lM];exact (by rw [e,lM] at l8;exact l8),λa ha=>?_,?_⟩ (λx=>?_)
 ·(refine bT ha λy hy pW=>?_;subst pW);obtain ⟨_,k,a,b⟩:=H y hy;exact SP h.t a b
 ·have em:(jk.map λy=>(y.1,iO y.2)).map (·.1)=bq G i:=by rw [e,List.map_map];rfl
  refine (th h v.ty).elim (λkq=>ay kq λe2 q=>?_) (λmV=>mV.elim (λq=>?_) (λmW=>bW mW λU hk q _=>?_))
  ·replace q:=e▸q;induction jk with
   |nil=>exact .inl ⟨rfl,e2⟩
   |cons y jk=>exact og q
  ·rw [e] at q
   match jk,q with
   |[y],q=>exact .inr (.inl ⟨iO y.2,congrArg (λz=>[(z,iO y.2)]) (List.cons.inj q).1⟩)
  ·exact .inr (.inr (em.symm▸q.symm▸hk.symm▸rfl))
 ·rw [List.map_map,List.mem_map,List.mem_map];refine ⟨λBA=>aq BA λy hy e=>(af y.2 ((HE v.g5 y.2).mpr (H y hy).1) e),λBF=>aq BF λj hj ex=>bc λXx=>?_⟩;obtain ⟨p,hp,k,a,b⟩:=v.has j ((HE v.g5 j).mp hj);replace hp:=e▸hp;(refine bT hp λy hy uW=>?_;subst uW);obtain ⟨_,k',a',b'⟩:=H y hy;refine Xx ?_;replace b':=b▸b';obtain rfl:=oj b';exact af y hy (by refine ex▸?_;exact congrArg iO (fZ Gn.nd a' a))
def iB.mG (h:au G)(k:iB G i l):ae (n+1) (184,2) [.obj 9,I i] (K G d)=sv (I i) (K G d):=by
 rcases k.form with⟨_,rfl⟩|⟨x,rfl⟩|hk
 ·exact ip h (bg h.pre rfl) (show 1≠14 by decide) (show 1≠15 by decide)
 ·exact (k.ky _ mS).mG h
 ·exact ip h hk (show 6≠14 by decide) (show 6≠15 by decide)
def qu (w:Int):aN .NotEq (.int w) (.val (.int w))=some false:=by show(kj (.int w) (.int w)).map not=_;rw [show kj (.int w) (.int w)=some (decide (w=w)) from yP w w,dT rfl];rfl
def RB:∀x∈(g7 m).map iO,x∈i9:=λx Y=>by
 (refine bT Y λj _ CN=>?_;subst CN);by_cases hj:j<8
 ·have:(List.range 8).all (λj=>decide (iO j∈i9))=true:=by kernel_rfl
  exact cS (aE this j (rI hj))
 ·have:iO j=.ofString "":=by delta iO;rw [List.getD_eq_getElem?_getD,List.getElem?_eq_none (show 8<=j by exact Nat.not_lt.mp ‹_›)];rfl
  rw [this];exact mS
def SQ {x:Str}(h:x∈kO):∀y∈qk x,y∈i9:=by
 have:kO.all (λx=>(qk x).all λy=>decide (y∈i9))=true:=by kernel_rfl
 exact λy hy=>cS (aE (aE this x h) y hy)
end
structure E1 where
 script:LV
 nums:LV
 lap:LV
 form:LV
 pick:LV
 fresh:LV
 a:LV
 b:LV
 t:LV
 plain:LV
structure E2 where
 mask:LV
 found:LV
 raw:LV
 keys:LV
 place:LV
 key:LV
 idx:LV
 want:LV
 made:LV
 first:LV
 second:LV
noncomputable def lw (e:E1)(l:E2)(σ:St):X:=⟨ez (207,0),[(.ofString "script",e.script),(.ofString "nums",e.nums),nv "tab" (.val (.obj 0)),nv "host" (.val (.obj 9)),(.ofString "lap",e.lap),(.ofString "form",e.form),(.ofString "pick",e.pick),(.ofString "fresh",e.fresh),(.ofString "a",e.a),(.ofString "b",e.b),(.ofString "t",e.t),(.ofString "plain",e.plain),(.ofString "mask",l.mask),(.ofString "found",l.found),(.ofString "raw",l.raw),(.ofString "keys",l.keys),(.ofString "place",l.place),(.ofString "key",l.key),(.ofString "idx",l.idx),(.ofString "want",l.want),(.ofString "made",l.made),(.ofString "first",l.first),(.ofString "second",l.second)],σ⟩
section
variable{n t:Nat} {G:List Row} {d:Sh} {F:Fu} {v:V} {e:E1} {l:E2} {m:Nat}
noncomputable def E1.at (e:E1)(t:Nat)(v:V)(pick fresh:Nat):E1:=⟨e.script,e.nums,e.lap,e.form,.val (I pick),.val (I fresh),e.a,e.b,.val (I t),.val v⟩
def PS {pick fresh:Nat}(h:TT G)(room:G.length+111<=1000000)(s:eC G d t F)(p:cL v F):
  ∃r0 raw N,(∀Z,cW (n+23) 11 (207,0) 0 7 4 (lw (e.at t v pick fresh) l (K G d)) Z=Z .next (lw (e.at t v pick fresh) ⟨.val (I F.has),.val (I r0),.val (I raw),l.keys,l.place,l.key,l.idx,l.want,l.made,l.first,l.second⟩ (K N d)))/\Up G N 111/\N[raw]?=some (.jj t)/\fM Ln F.has:=by
 refine bc λcG=>aw (Fh (n:=n+3) h (nT (nA (nl rfl) _) room) s) λr0 aj H u1 v1=>aw (fN (n:=n+22) (d:=d) (k:=.jj t) u1.t rfl (u1.cJ (m:=1) room (nl rfl)) λU e=>nomatch e) λraw aB M u2 h3=>?_;have cU:=u1.trans u2;refine aw (Ek (n:=n+1) cU.t (cU.room room) (s.up cU.pre) h3) λr1 cC h4 u3 v3=>?_;have e1:r1=r0:=Hx u3.t v3 (v1.up (u2.pre.trans u3.pre));subst e1;exact cG (fB r1 raw cC (fx [.r (PL (n:=n+21) (σ:=K G d) p),.r H,.r M,.r (xd Gn (n:=n+22) (d:=d) u2.t.t (v1.up u2.pre)),.b (qu F.has),.r h4,.b (qu r1)]) (cU.trans u3) (bg u3.pre h3) v1.g5)
def F9 {α:Type}{m dd k:Nat}{i:Nat×Nat}{vars:bL}{σ:St}(ho:oZ i k=true){it:α->V}{sel:α->Bool}{f:α->V}:∀{l:List α},(∀a∈l,∀Z,fz m dd i k vars (it a) σ Z=Z (cond (sel a) (some (f a)) none) σ)->∀Z,eN m dd i k vars (l.map it) σ Z=Z ((l.filter sel).map f) σ:=by
 intro z_
 induction z_ with
 |nil=>intro _;exact jc ho
 |cons a l ak=>
  intro h;have H:=fY (h a mS) (ak λb hb=>h b (aT _ hb));refine List.filter_cons.symm▸?_;generalize e:sel a=z_;induction z_ with
  |true=>rw [e] at H;exact H
  |false=>rw [e] at H;exact H
def Bk (a:Nat):k8 (I a)=some (decide (a≠0)):=by
 by_cases h:a=0
 ·refine h.symm▸?_;rfl
 ·exact (dT h).symm▸(bne_iff_ne.mpr (Dd (Nat.pos_of_ne_zero h))).symm▸rfl
noncomputable def DO (j:Nat):V:=rv (Ln.rows.getD j (.param 0))
noncomputable def kS (j:Nat):V:=.str (iO j)
def G1 (m k:Nat):decide (m&&&2^k≠0)=m.testBit k:=by
 have e:m&&&2^k=if m.testBit k=true then 2^k else 0:=by
  refine Nat.eq_of_testBit_eq λb=>?_;rw [Nat.testBit_and,Nat.testBit_two_pow];by_cases h:k=b
  ·subst h;generalize hm:m.testBit k=z_;induction z_ with
   |true=>rw [if_pos rfl,Nat.testBit_two_pow,Bool.true_and]
   |false=>rw [if_neg gi,Nat.zero_testBit];rfl
  ·rw [dF h,Bool.and_false];generalize hm:m.testBit k=z_;induction z_ with
   |true=>rw [if_pos rfl,Nat.testBit_two_pow,dF h]
   |false=>rw [if_neg gi,Nat.zero_testBit]
 refine e.symm▸?_
 cases m.testBit k with
 |true=>exact dT (by refine (if_pos rfl).symm▸?_;exact Nat.ne_of_gt (Nat.two_pow_pos k))
 |false=>rfl
def MQ {vars:bL}{σ:St}{e':E1}(hv:vars=(lw e' l σ).vars)(hm:l.mask=.val (I m)):∀j∈List.range 8,∀Z,fz (n+23) 38 (207,0) 1 vars (DO j) σ Z=Z (cond (decide (Ln.bits j&&&m≠0)&&decide (j<6)) (some (kS j)) none) σ:=λj hj=>by
 subst hv;have hj:j<8:=List.mem_range.mp hj;obtain ⟨mask,found,raw,keys,place,key,idx,want,made,first,second⟩:=l;obtain rfl:=hm;have sb:cz (.val (.dict (fV Ln))) (DO j)=some (I (Ln.bits j)):=by show(dh (fV Ln) (rv _)).bind id=_;refine (tU Gn (by rw [List.getD_eq_getElem?_getD,cM hj];rfl:Ln.rows[j]?=some (Ln.rows.getD j (.param 0)))).symm▸?_;rfl
 have tr:=Bk (Ln.bits j&&&m);have e3:aN .Eq (I (rk (Ln.rows.getD j (.param 0)))) (.val (.int 3))=some (decide (j<6)):=by have:j=0\/j=1\/j=2\/j=3\/j=4\/j=5\/j=6\/j=7:=(JD ‹_›);rcases this with rfl|rfl|rfl|rfl|rfl|rfl|rfl|rfl<;>rfl
 generalize q:decide (Ln.bits j&&&m≠0)=z_;induction z_ with
 |false=>replace tr:=q▸tr;exact ew [.v sb,.l (eA (Ln.bits j) m),.b tr]
 |true=>
  replace tr:=q▸tr;generalize q2:decide (j<6)=z_;induction z_ with
  |false=>replace e3:=q2▸e3;exact ew [.v sb,.l (eA (Ln.bits j) m),.b tr,.v (cq (Ln.rows.getD j (.param 0))),.b e3]
  |true=>
   replace e3:=q2▸e3;have r1:cz (.val (DO j)) (.int 1)=some (kS j):=by
    have:j=0\/j=1\/j=2\/j=3\/j=4\/j=5:=by have:=cS q2;exact JC ‹_›
    rcases this with rfl|rfl|rfl|rfl|rfl|rfl<;>rfl
   exact ew [.v sb,.l (eA (Ln.bits j) m),.b tr,.v (cq (Ln.rows.getD j (.param 0))),.b e3,.v r1]
def PT {e':E1}(hm:l.mask=.val (I m)):∀Z,cW (n+23) 11 (207,0) 0 11 2 (lw e' l (K G d)) Z=Z .next (lw e' ⟨.val (I m),l.found,l.raw,.ml ((g7 m).map kS),l.place,l.key,l.idx,l.want,l.made,l.first,l.second⟩ (K G d)):=by
 have hc:=F9 (dd:=38) (k:=1) (by kernel_rfl) (MQ (n:=n) (vars:=(lw e' l (K G d)).vars) rfl hm);obtain ⟨mask,found,raw,keys,place,key,idx,want,made,first,second⟩:=l;obtain rfl:=hm;have a6:=eA m 64;have t6:=Bk (m&&&64);rw [show(64)=2^6 from rfl,G1] at t6;have a7:=eA m 128;have t7:=Bk (m&&&128);rw [show(128)=2^7 from rfl,G1] at t7;have kk:∀{l0:List V},((vp m).map kS=l0)->l0.length<=100->(m.testBit 7=true->grown eL l0 (.str "#")=some ((g7 m).map kS))/\(m.testBit 7=false->l0=(g7 m).map kS):=λh hl=>by
  subst h;refine ⟨λq=>?_,λq=>?_⟩
  ·rw [nU ((nT ‹_› (nl rfl)))];delta g7;rw [if_pos q,List.map_append];rfl
  ·delta g7;rw [if_neg (by rw [q];exact gi),List.append_nil]
 have fin:∀{l0:List V},((vp m).map kS=l0)->l0.length<=100->(∀l1,(m.testBit 7=true->grown eL l0 (.str "#")=some l1)->(m.testBit 7=false->l0=l1)->∀Z,cW (n+23) 11 (207,0) 0 11 2 (lw e' ⟨.val (I m),found,raw,keys,place,key,idx,want,made,first,second⟩ (K G d)) Z=Z .next (lw e' ⟨.val (I m),found,raw,.ml l1,place,key,idx,want,made,first,second⟩ (K G d)))->∀Z,cW (n+23) 11 (207,0) 0 11 2 (lw e' ⟨.val (I m),found,raw,keys,place,key,idx,want,made,first,second⟩ (K G d)) Z=Z .next (lw e' ⟨.val (I m),found,raw,.ml ((g7 m).map kS),place,key,idx,want,made,first,second⟩ (K G d)):=λh hl go=>go _ (kk h hl).1 (kk h hl).2
 generalize b6:m.testBit 6=z_;induction z_ with
 |true=>
  replace t6:=b6▸t6;refine fin (l0:=[.str ""]) (by delta vp;rw [if_pos b6];rfl) (show 1<=100 by decide) λl1 H M=>?_
  cases b7:m.testBit 7 with
  |true=>rw [b7] at t7;have g:=H b7;exact fx [.l a6,.b t6,.l a7,.b t7,.s g]
  |false=>replace t7:=b7▸t7;obtain rfl:=M b7;exact fx [.l a6,.b t6,.l a7,.b t7]
 |false=>
  rw [b6] at t6;have ll:=List.length_filter_le (λj=>decide (Ln.bits j&&&m≠0)&&decide (j<6)) (List.range 8);rw [List.length_range] at ll;refine fin (by delta vp;rw [if_neg (by rw [b6];exact gi)]) (by rw [lM];exact nT ‹_› (nl rfl)) λl1 H M=>?_;generalize b7:m.testBit 7=z_;induction z_ with
  |true=>replace t7:=b7▸t7;have g:=H b7;exact fx [.l a6,.b t6,.z 2,.c hc,.l a7,.b t7,.s g]
  |false=>rw [b7] at t7;obtain rfl:=M b7;exact fx [.l a6,.b t6,.z 2,.c hc,.l a7,.b t7]
def RC {pick fresh raw:Nat}(h:TT G)(room:G.length+400<=1000000)(s:eC G d t F)(p:cL v F)(hr:G[raw]?=some (.jj t))(Xy:l.raw=.val (I raw))(hk:l.keys=.ml ((g7 F.has).map kS)):
  ∃N,(∀Z,cW (n+23) 11 (207,0) 0 13 1 (lw (e.at t v pick fresh) l (K G d)) Z=Z .next (lw (e.at t v pick fresh) ⟨l.mask,l.found,.val (I raw),.val (.list ((g7 F.has).map kS)),l.place,l.key,l.idx,l.want,l.made,l.first,l.second⟩ (K N d)))/\Up G N 352:=by
 refine aw (Ek (n:=n) h (nT (nA (nl rfl) _) room) s hr) λi aj H u1 v1=>?_;refine aq (MP u1.t v1) λli ki hl=>aw (wx h.t u1.pre u1.t (u1.cJ room (nl rfl)) s ki H) λr aB M u2 tr=>?_;have tl:=xh (n:=n+22) (d:=d) u2.t.t tr;rw [F8 hl] at tl;have ov:=AF (n:=n+19) (σ:=K aB d) (xs:=(g7 F.has).map iO) p RB;rw [List.map_map] at ov;refine af aB ?_ (u1.trans u2);obtain ⟨mask,found,Zb,keys,place,key,idx,want,made,first,second⟩:=l;obtain rfl:=Xy;obtain rfl:=hk;exact fx [.r M,.r tl,.r ov,.b (qu (F.over ((g7 F.has).map iO)))]
end
section
variable{n t pick fresh:Nat} {G:List Row} {d:Sh} {F:Fu} {v:V} {e:E1} {l:E2} {x:Str}
def SR (Y:x∈kO):cO x:=by
 have:kO.all PyData.strOk=true:=by kernel_rfl
 exact aE this x Y
def Oj (Y:x∈kO):x=.ofString "!"\/x≠.ofString "!"/\∃y,qH x (.ofString "@",.ofString "")=some (.str y)/\qk x=[y]:=by
 simp only [kO,List.mem_cons,List.not_mem_nil,or_false] at Y;rcases Y with rfl|rfl|rfl|rfl|rfl|rfl|rfl|rfl|rfl|rfl|rfl|rfl
 ·exact .inr ⟨by decide,.ofString "p",by kernel_rfl,by decide⟩
 ·exact .inr ⟨by decide,.ofString "q",by kernel_rfl,by decide⟩
 ·exact .inr ⟨by decide,.ofString "0",by kernel_rfl,by decide⟩
 ·exact .inr ⟨by decide,.ofString "0",by kernel_rfl,by decide⟩
 ·exact .inr ⟨by decide,.ofString "",by kernel_rfl,by decide⟩
 ·exact .inr ⟨by decide,.ofString "#",by kernel_rfl,by decide⟩
 ·exact .inr ⟨by decide,.ofString "length",by kernel_rfl,by decide⟩
 ·exact .inr ⟨by decide,.ofString "1",by kernel_rfl,by decide⟩
 ·exact .inr ⟨by decide,.ofString "1",by kernel_rfl,by decide⟩
 ·exact .inr ⟨by decide,.ofString "7",by kernel_rfl,by decide⟩
 ·exact .inr ⟨by decide,.ofString "2",by kernel_rfl,by decide⟩
 ·exact .inl rfl
def yw {l:List Str}{i:Nat}(h:i<l.length)(hl:l.length<=1000):cz (.val (.list (l.map .str))) (I i)=some (.str (l.getD i ⟨#[]⟩))/\l.getD i ⟨#[]⟩∈l:=by
 have e:l[i]?=some (l.getD i ⟨#[]⟩):=by rw [List.getD_eq_getElem?_getD,cM h];rfl
 exact ⟨nq (by rw [List.getElem?_map,e];rfl) (by rw [lM];exact nT ‹_› (nl rfl)),dU e⟩
def SS {y:Str}{p:Str×Str}(X':X)(h:qH x p=some (.str y)):qQ (.val (.str x)) p X' (λlv x=>some (lv,x.st))=sv (.str y) X'.st:=by show(qH x p).bind _=_;refine h.symm▸?_;rfl
def Ol {j:Nat}(h:TT G)(room:G.length+600<=1000000)(s:eC G d t F)(p:cL v F):
  ∃l' N,(∀Z,aZ (n+24) 10 (207,0) 1 (I j) (lw (e.at t v pick fresh) l (K G d)) Z=Z .next (lw (e.at t v pick fresh) l' (K N d)))/\Up G N 600/\l'.raw=l.raw/\l'.keys=l.keys:=by
 have sq:=yw (l:=kO) (i:=(pick+j)%12) (Nat.mod_lt _ (by decide)) (nl rfl);generalize kO.getD ((pick+j)%12) ⟨#[]⟩=x at sq;refine eP (HC (n:=n+22) (d:=d) (f:=fresh) h (nT (nA (show 1<=600 by decide) _) room) sq.2) λi aj li H u1 ki el=>?_;have ov:=AF (n:=n+20) (σ:=K aj d) p (SQ sq.2);have pa:∀Z,cW (n+24) 10 (207,0) 1 0 3 (lw (e.at t v pick fresh) ⟨l.mask,l.found,l.raw,l.keys,.val (I j),l.key,l.idx,l.want,l.made,l.first,l.second⟩ (K G d)) Z=Z .next (lw (e.at t v pick fresh) ⟨l.mask,l.found,l.raw,l.keys,.val (I j),.val (.str x),.val (I i),.val (.int (F.over (qk x))),l.made,l.first,l.second⟩ (K aj d)):=by
  have eq:=xW (b:=.ofString "!") (SR sq.2) (by kernel_rfl);rcases Oj sq.2 with rfl|⟨ne,y,hr,hq⟩
  ·exact fx [.z 2,.l (dI (pick+j) 12 (by decide)),.v sq.1,.r H,.z 1,.r ov]
  ·rw [dF ne] at eq;rw [hq] at ov⊢;exact fx [.z 2,.l (dI (pick+j) 12 (by decide)),.v sq.1,.r H,.b eq,.r (SS (lw (e.at t v pick fresh) ⟨l.mask,l.found,l.raw,l.keys,.val (I j),.val (.str x),.val (I i),l.want,l.made,l.first,l.second⟩ (K aj d)) hr),.r ov]
 refine bc λuQ=>aw (wx (n:=n+2) u1.t.t (List.prefix_refl _) u1.t (u1.cJ room (nl rfl)) (s.up u1.pre) ki (ki.mG u1.t.t)) λr aB M u2 tr=>?_;rw [el] at tr;have tl:=xh (n:=n+23) (d:=d) u2.t.t tr;have cU:=u1.trans u2;refine aw (wx (n:=n) cU.t.t (List.prefix_refl _) cU.t (cU.cJ room (by decide)) (s.up cU.pre) (ki.up u2.pre) ((ki.up u2.pre).mG cU.t.t)) λr3 cC h3 u3 Kj=>?_;rw [el] at Kj;refine aq (LH cU.t h3 u3 Kj) λr4 h4 YZ=>uQ ?_;have vZ:=xh (n:=n+23) (d:=d) u3.t.t YZ;have q1:=qu (F.over (qk x));have e1:=yP (F.over (qk x)) (-1);have pb:∀Z,cW (n+24) 10 (207,0) 1 3 3 (lw (e.at t v pick fresh) ⟨l.mask,l.found,l.raw,l.keys,.val (I j),.val (.str x),.val (I i),.val (.int (F.over (qk x))),l.made,l.first,l.second⟩ (K aj d)) Z=Z .next (lw (e.at t v pick fresh) ⟨l.mask,l.found,l.raw,l.keys,.val (I j),.val (.str x),.val (I i),.val (.int (F.over (qk x))),.val (.int r4),l.first,l.second⟩ (K cC d)):=by
  generalize F.over (qk x)=w at tl vZ q1 e1;by_cases q:w=-1
  ·rw [if_pos q] at vZ;rw [dT q] at e1;exact fx [.r M,.r tl,.b q1,.r h4,.r vZ,.z 1,.b e1,.z 1,.b (qu (-4))]
  ·rw [if_neg q] at vZ;rw [dF q] at e1;exact fx [.r M,.r tl,.b q1,.r h4,.r vZ,.z 1,.b e1,.b q1]
 refine d6 _ cC (sW (s:=.ofString "place") (by kernel_rfl) (by kernel_rfl) (by kernel_rfl) (mf (l2:=3) pa pb)) ((cU.trans u3).mono (by decide)) rfl rfl
end
noncomputable def p8:List Str:=[.ofString "p",.ofString "q",.ofString "0",.ofString "1",.ofString "length",.ofString "#"]
def jH (G:List Row)(f i:Nat)(x:Str):Prop:=(G[i]?=some (.str x f)/\x∈dH)\/(i=7/\x=.ofString "#")
section
variable{n t pick fresh i j:Nat} {G:List Row} {d:Sh} {F:Fu} {v:V} {e:E1} {l:E2} {x y:Str}
def jH.up {N:List Row}{f:Nat}(u:G<+:N)(h:jH G f i x):jH N f i x:=h.imp (λh=>⟨bg u h.1,h.2⟩) id
def jH.ky {f:Nat}(h:jH G f i x):e9 G i x:=by exact h.elim (λbu=>ay bu λH M=>(.str f H M)) (λcx=>ay cx λH M=>(.number H M))
def F_ {f:Nat}(h:TT G)(room:G.length<1000000)(Y:x∈p8):∃i N,ae (n+2) (205,0) [.obj 0,.str x,I f] (K G d)=sv (I i) (K N d)/\Up G N 1/\jH N f i x:=by
 have txt:∀{y:Str},y∈dH->(∀i N,ae (n+1) (64,3) [.obj 0,rv (.str y f)] (K G d)=sv (I i) (K N d)->ae (n+2) (205,0) [.obj 0,.str y,I f] (K G d)=sv (I i) (K N d))->
   ∃i N,ae (n+2) (205,0) [.obj 0,.str y,I f] (K G d)=sv (I i) (K N d)/\Up G N 1/\jH N f i y:=λhy go=>by
  exact aw (AB (n:=n) (d:=d) h room (rt hy) f) λi N H M h3=>aD i N (go i N H) M (.inl ⟨h3,hy⟩)
 simp only [p8,List.mem_cons,List.not_mem_nil,or_false] at Y;rcases Y with rfl|rfl|rfl|rfl|rfl|rfl
 ·exact txt (by decide) λi N H=>aa [.z 5,.r H]
 ·exact txt (by decide) λi N H=>aa [.z 5,.r H]
 ·exact txt (by decide) λi N H=>aa [.z 5,.r H]
 ·exact txt (by decide) λi N H=>aa [.z 5,.r H]
 ·exact txt (by decide) λi N H=>aa [.z 5,.r H]
 ·exact aD 7 G (aa [.z 3]) ((Up.refl h).mono (lZ _)) (.inr ⟨rfl,rfl⟩)
def jH.atom {f:Nat}(h:au G)(a:jH G f i x):Atom G i:=by
 rcases a with⟨H,M⟩|⟨rfl,_⟩
 ·exact ⟨(af _ H rfl),fI λe=>by have:=pC e;have:=Ac h H (.inl rfl);exact absurd ‹_› (Nat.not_le.mpr ‹_›)⟩
 ·exact ⟨(af _ (bg h.pre rfl) rfl),by decide⟩
def PU {f:Nat}(h:TT G)(room:G.length<1000000)(a:jH G f i x)(b:jH G f j y):
  ∃r N l,ae (n+3) (86,0) [.obj 0,.list [I i,I j]] (K G d)=sv (I r) (K N d)/\Up G N 1/\iB N r l/\∀z,z∈l.map (·.2)↔z∈[x,y]:=by
 have r7:G[7]?=some (.key "number"):=bg h.t.pre rfl;have row:∀p,p=i\/p=j->∀k,G[p]?=some k->(∃z,k=.str z f)\/k=.key "number":=λp hp k hk=>by
  have one:∀{i:Nat}{x:Str},jH G f i x->G[i]?=some k->(∃z,k=.str z f)\/k=.key "number":=λa hk=>by
   rcases a with⟨H,_⟩|⟨rfl,_⟩
   ·replace hk:=H▸hk;obtain rfl:=oj hk;exact .inl ⟨_,rfl⟩
   ·replace hk:=r7▸hk;obtain rfl:=oj hk;exact .inr rfl
  rcases hp with rfl|rfl
  ·exact one a hk
  ·exact one b hk
 obtain ⟨r,N,H,M,h3⟩:=EJ (n:=n) (d:=d) h room (a.atom h.t) (b.atom h.t) λp hp k hk=>by
  rcases row p hp k hk with⟨z,rfl⟩|rfl
  ·refine ⟨λr hr q hq vT=>?_,λq hq vT=>?_⟩
   ·have hr:(if f=1 then some (Row.str z 0) else none)=some r:=hr;by_cases hf:f=1
    ·replace hr:=(if_pos hf)▸hr;obtain rfl:=oj hr;rcases row q vT _ hq with⟨z',e⟩|e
     ·(injection e with q_ dq;subst q_;subst dq);exact IM hf
     ·cases e
    ·replace hr:=(if_neg hf)▸hr;exact aF hr
   ·have:q=6:=(Int.natCast_inj.mp (hq:((6:Nat):Int)=q)).symm;subst this;rcases row 6 vT _ (bg h.t.pre rfl:G[6]?=some (.key "string")) with⟨z',e⟩|e
    ·cases e
    ·exact absurd (Row.key.inj e) (by decide)
  ·exact ⟨λr hr=>(aF hr),λq hq=>uG (show-1=(q:Int) from hq)⟩
 refine dB r N ?_;rcases h3 with⟨rfl,rfl⟩|⟨_,p,q,hk,vR⟩
 ·refine mJ ([(r,x)]) H M ⟨(nl rfl:1<=8),λc hc=>by obtain rfl:=sE hc;exact (a.up M.pre).ky,.inr (.inl ⟨x,rfl⟩)⟩ (λz=>?_);have:x=y:=by
   refine a.elim (λV9=>ay V9 λe1 _=>?_) (λV_=>ay V_ λe1 e2=>?_)<;>rcases b with⟨e3,_⟩|⟨e3,e4⟩
   ·replace e3:=e1▸e3;cases e3;rfl
   ·replace e1:=r7▸e3▸e1;cases e1
   ·replace e3:=r7▸e1▸e3;cases e3
   ·exact e2.symm▸e4.symm▸rfl
  subst this;show z∈[x]↔z∈[x,x];simp
 ·rcases vR with⟨rfl,rfl⟩|⟨rfl,rfl⟩
  ·refine mJ ([(p,x),(q,y)]) H M ⟨(by decide:2<=8),λc hc=>?_,.inr (.inr hk)⟩ (λz=>Iff.rfl);rcases mE hc with rfl|hc
   ·exact (a.up M.pre).ky
   ·obtain rfl:=sE hc;exact (b.up M.pre).ky
  ·refine mJ ([(p,y),(q,x)]) H M ⟨(by decide:2<=8),λc hc=>?_,.inr (.inr hk)⟩ (λz=>?_)
   ·rcases mE hc with rfl|hc
    ·exact (b.up M.pre).ky
    ·obtain rfl:=sE hc;exact (a.up M.pre).ky
   ·show z∈[y,x]↔z∈[x,y];rw [List.mem_cons,List.mem_singleton,List.mem_cons,List.mem_singleton,or_comm]
def MR (h:TT G)(room:G.length+2400<=1000000)(s:eC G d t F)(p:cL v F):
  ∃l' N,(∀Z,cW (n+24) 11 (207,0) 0 14 1 (lw (e.at t v pick fresh) l (K G d)) Z=Z .next (lw (e.at t v pick fresh) l' (K N d)))/\Up G N 2400:=by
 have go:∀{js:List Nat}{G:List Row}{l:E2},TT G->G.length+600*js.length<=1000000->eC G d t F->∃l' N,(∀Z,cF (n+24) 10 (207,0) 1 (js.map I) (lw (e.at t v pick fresh) l (K G d)) Z=Z .next (lw (e.at t v pick fresh) l' (K N d)))/\Up G N (600*js.length):=λ{js}=>by
  induction js with
  |nil=>exact λ{G l} h _ _=>ax l G (dk (by kernel_rfl)) (Up.refl h)
  |cons j js ih=>
   intro G l h room s;have room:G.length+(600+600*js.length)<=1000000:=by rw [Nat.add_comm 600];exact room
   refine aw (Ol (n:=n) (pick:=pick) (fresh:=fresh) (e:=e) (l:=l) (j:=j) h (nT (nA (lA 600 _) _) room) s p) λl1 aj H u1 _=>aG (ih (l:=l1) u1.t (u1.room room) (s.up u1.pre)) λl2 aB M u2=>?_;exact ax l2 aB (cD H M) ((u1.trans u2).mono (by rw [Nat.add_comm];exact nR _))
 exact aG (go (js:=[0,1,2,3]) (l:=l) h room s) λl' N H u=>ax l' N (fx [.z 2,.f H]) u
def MS (h:TT G)(room:G.length+300<=1000000)(s:eC G d t F)(p:cL v F):
  ∃l' N,(∀Z,cW (n+24) 11 (207,0) 0 15 4 (lw (e.at t v pick fresh) l (K G d)) Z=Z .next (lw (e.at t v pick fresh) l' (K N d)))/\Up G N 300:=by
 have s1:=yw (l:=p8) (i:=pick/12%6) (Nat.mod_lt _ (by decide)) (by decide);have s2:=yw (l:=p8) (i:=pick/72%6) (Nat.mod_lt _ (by decide)) (by decide);generalize p8.getD (pick/12%6) ⟨#[]⟩=x at s1;generalize p8.getD (pick/72%6) ⟨#[]⟩=y at s2;refine bc λWa=>aw (F_ (n:=n+22) (d:=d) (f:=fresh) h (nT (nA (show 1<=300 by decide) _) room) s1.2) λi aj H u1 a=>aw (F_ (n:=n+22) (d:=d) (f:=fresh) u1.t (u1.cJ (m:=1) room (nl rfl)) s2.2) λj aB M u2 b=>eP (PU (n:=n+21) (d:=d) (u1.trans u2).t ((u1.trans u2).cJ (m:=1) room (nl rfl)) (a.up u2.pre) b) λr cC li h3 u3 ki el=>?_;have eK:=(u1.trans u2).trans u3;refine aw (wx (n:=n+2) eK.t.t (List.prefix_refl _) eK.t (eK.room room) (s.up eK.pre) ki (ki.mG eK.t.t)) λr' jA h4 u4 tr=>Wa ?_;replace tr:=(F8 el)▸tr;have fk:=λz hz=>by
  have:p8.all (λz=>decide (z∈i9))=true:=by kernel_rfl
  exact cS (aE this z hz)
 have ov:=AF (n:=n+20) (σ:=K jA d) p λz hz=>by
  rcases mE hz with rfl|hz
  ·exact fk _ s1.2
  ·obtain rfl:=sE hz;exact fk _ s2.2
 exact ax ⟨l.mask,l.found,l.raw,l.keys,l.place,l.key,.val (I r),l.want,l.made,.val (.str x),.val (.str y)⟩ jA (fx [.z 1,.l (e_ pick 12 (nl rfl) (nl rfl)),.l (dI (pick/12) 6 (by decide)),.v s1.1,.z 1,.l (e_ pick 72 (nl rfl) (nl rfl)),.l (dI (pick/72) 6 (by decide)),.v s2.1,.r H,.r M,.r h3,.r h4,.r (xh (n:=n+23) (d:=d) u4.t.t tr),.r ov,.b (qu (F.over [x,y]))]) ((eK.trans u4).mono (nl rfl))
end
section
variable{n t pick fresh i j:Nat} {G:List Row} {d:Sh} {F:Fu} {v:V} {e:E1} {l:E2} {x y:Str}
def wV (h:TT G)(room:G.length+3200<=1000000)(s:eC G d t F)(p:cL v F):
  ∃l' N,(∀Z,cW (n+24) 11 (207,0) 0 7 12 (lw (e.at t v pick fresh) l (K G d)) Z=Z .next (lw (e.at t v pick fresh) l' (K N d)))/\Up G N 3200:=by
 refine bc λbu=>eP (PS (n:=n+1) (e:=e) (l:=l) (pick:=pick) (fresh:=fresh) h (nT (nA (nl rfl) _) room) s p) λr0 raw aj H u1 hr hm=>aq (RC (n:=n+1) (e:=e) (pick:=pick) (fresh:=fresh) (l:=⟨.val (I F.has),.val (I r0),.val (I raw),.ml ((g7 F.has).map kS),l.place,l.key,l.idx,l.want,l.made,l.first,l.second⟩) u1.t (u1.cJ room (nl rfl)) (s.up u1.pre) p hr rfl rfl) λaB h3 u2=>?_;have cU:=u1.trans u2;refine aG (MR (n:=n) (e:=e) (pick:=pick) (fresh:=fresh) (l:=⟨.val (I F.has),.val (I r0),.val (I raw),.val (.list ((g7 F.has).map kS)),l.place,l.key,l.idx,l.want,l.made,l.first,l.second⟩) cU.t (cU.cJ room (nl rfl)) (s.up cU.pre) p) λl4 cC h4 u3=>?_;have eK:=cU.trans u3;exact aG (MS (n:=n) (e:=e) (pick:=pick) (fresh:=fresh) (l:=l4) eK.t (eK.cJ room (by decide)) (s.up eK.pre) p) λl5 jA h5 u4=>bu (ax l5 jA (mf (l2:=8) H (mf (l2:=6) (PT (G:=aj) (e':=e.at t v pick fresh) (m:=F.has) rfl) (mf (l2:=5) h3 (mf (l2:=4) h4 h5)))) ((eK.trans u4).mono (by decide)))
def Aj {k:Row}(h:TT G)(room:G.length<1000000)(hk:G[i]?=some k):ae (n+1) (64,3) [.obj 0,rv k] (K G d)=sv (I i) (K G d):=by
 refine hZ (Hs (n:=n) (d:=d) h.t (h.t.ok k (dU hk)) room) λi' N H M h3 h4=>?_;rcases h4 with rfl|rfl
 ·rw [H,fZ h.t.nd h3 hk]
 ·have nd:=(List.nodup_append.mp M.nd).2.2 k (dU hk) k mS;exact absurd rfl nd
noncomputable def bump (d:Sh):Sh:=⟨d.decls,d.bounds++[.int (-1)],d.defaults++[.int (-1)],d.names++[.str "T"],d.rest,d.next⟩
def PV (h:TT G)(room:G.length<1000000)(l1:d.bounds.length<=100)(l2:d.defaults.length<=100)(l3:d.names.length<=100):
  ∃t N,ae (n+2) (78,0) [.obj 0,.str "T",.int (-1),.int (-1)] (K G d)=sv (I t) (K N (bump d))/\Up G N 1/\N[t]?=some (.param d.bounds.length):=by
 refine aw (fN (n:=n) (d:=bump d) (k:=.param d.bounds.length) h rfl room λU e=>nomatch e) λt N H M h3=>?_;have a1:jg (.val (.obj 4)) "append" [.int (-1)] (K G d)=sv .none (K G ⟨d.decls,d.bounds++[.int (-1)],d.defaults,d.names,d.rest,d.next⟩):=by show nK (K G d) 4 d.bounds "append" [.int (-1)]=_;show guard (_==eL&&aY d.bounds.length) _=_;rw [dy (nT l1 (nl rfl))];rfl
 have a2:jg (.val (.obj 5)) "append" [.int (-1)] (K G ⟨d.decls,d.bounds++[.int (-1)],d.defaults,d.names,d.rest,d.next⟩)=sv .none (K G ⟨d.decls,d.bounds++[.int (-1)],d.defaults++[.int (-1)],d.names,d.rest,d.next⟩):=by show nK (K G ⟨d.decls,d.bounds++[.int (-1)],d.defaults,d.names,d.rest,d.next⟩) 5 d.defaults "append" [.int (-1)]=_;show guard (_==eL&&aY d.defaults.length) _=_;rw [dy ((nT ‹_› (nl rfl)))];rfl
 have a3:jg (.val (.obj 6)) "append" [.str "T"] (K G ⟨d.decls,d.bounds++[.int (-1)],d.defaults++[.int (-1)],d.names,d.rest,d.next⟩)=sv .none (K G (bump d)):=by show nK (K G ⟨d.decls,d.bounds++[.int (-1)],d.defaults++[.int (-1)],d.names,d.rest,d.next⟩) 6 d.names "append" [.str "T"]=_;show guard (_==eL&&aY d.names.length) _=_;rw [dy (nT l3 (nl rfl))];rfl
 exact aD t N (aa [.v (rY (xs:=d.bounds) (nT l1 (nl rfl))),.r a1,.r a2,.r a3,.r H]) M h3
def Ga {k:Nat}(h:au G)(hk:G[t]?=some (.param k)):ae (n+1) (164,0) [.obj 0,I t] (K G d)=sv (.bool true) (K G d):=aa [.v (aQ h hk),.z 2]
def EK {k raw:Nat}(h:TT G)(room:G.length<1000000)(hk:G[t]?=some (.param k))(hr:G[raw]?=some (.jj t)):ae (n+3) (175,0) [.obj 9,I t] (K G d)=sv (I raw) (K G d):=by
 have w:=cV h.t hk (show 10≠1 by decide);have ei:=ma t [1,3,4,5,10] λe=>w t (by
  have:[1,3,4,5,10].all ([0,1,2,3,4,5,6,7,10,13].contains ·)=true:=by decide
  exact cE (aE this t e)) rfl
 exact aa [.r (ip (n:=n+1) (d:=d) h.t hk (show 10≠14 by decide) (show 10≠15 by decide)),.b (neN (w 0 (by decide))),.b (neN (w 13 (by decide))),.b (neN (w 2 (by decide))),.b ei,.r (aa [.v (aQ h.t hk),.z 1] (by kernel_rfl):ae (n+2) (66,0) [.obj 0,I t] (K G d)=sv (I 10) (K G d)),.z 2,.r (Ga (n:=n+1) (d:=d) h.t hk),.r (aa [.v (aQ h.t hk),.z 2,.r (Aj (n:=n) (d:=d) h room hr)] (by kernel_rfl):ae (n+2) (174,0) [.obj 9,I t] (K G d)=sv (I raw) (K G d))]
def El {k raw:Nat}(h:TT G)(room:G.length<1000000)(hk:G[t]?=some (.param k))(hr:G[raw]?=some (.jj t)):ae (n+5) (184,2) [.obj 9,I raw] (K G d)=sv (I raw) (K G d):=aa [.v (aQ h.t hr),.z 2,.r (by exact aa [.z 3,.r (EK (n:=n) (d:=d) h room hk hr)] (by kernel_rfl):ae (n+4) (182,0) [.obj 9,rv (.jj t)] (K G d)=sv (I raw) (K G d))]
def Em {k r:Nat}{N:List Row}(h:TT G)(hk:G[t]?=some (.param k))(hi:i≠2/\i≠13)(pt:ae (n+4) (64,3) [.obj 0,rv (.index t i)] (K G d)=sv (I r) (K N d))(f2:ae (n+5) (184,2) [.obj 9,I i] (K G d)=sv (I i) (K G d)):ae (n+6) (181,0) [.obj 9,I t,I i] (K G d)=sv (I r) (K N d):=aa [.r (ip (n:=n+4) (d:=d) h.t hk (show 10≠14 by decide) (show 10≠15 by decide)),.r f2,.b (neN ((cV h.t hk (show 10≠1 by decide)) 13 (by decide))),.b (neN hi.2),.b (neN ((cV h.t hk (show 10≠1 by decide)) 0 (by decide))),.b (neN ((cV h.t hk (show 10≠1 by decide)) 2 (by decide))),.b (neN hi.1),.r (Ga (n:=n+4) (d:=d) h.t hk),.r (aa [.v (aQ h.t hk),.z 2,.r pt] (by kernel_rfl):ae (n+5) (177,0) [.obj 9,I t,I i] (K G d)=sv (I r) (K N d))]
def wy (h:TT G)(room:G.length+6<=1000000)(l1:d.bounds.length<=100)(l2:d.defaults.length<=100)(l3:d.names.length<=100):
  ∃N,ae (n+7) (206,0) [.obj 0,.obj 9,I pick] (K G d)=sv (.bool true) (K N (bump d))/\Up G N 6:=by
 refine bc λjo=>aw (PV (n:=n+4) h (nT (nA (show 1<=6 by decide) _) room) l1 l2 l3) λt aj H u1 hk=>?_;have sq:=yw (l:=kO) (i:=pick%12) (Nat.mod_lt _ (by decide)) (nl rfl);refine eP (HC (n:=n+4) (d:=bump d) (f:=0) u1.t (u1.cJ (m:=1) room (nl rfl)) sq.2) λi aB li M u2 ki _=>aw (fN (n:=n+5) (d:=bump d) (k:=.jj t) (u1.trans u2).t rfl ((u1.trans u2).cJ (m:=1) room (nl rfl)) λU e=>nomatch e) λraw cC h3 u3 hr=>jo ?_;have eK:=(u1.trans u2).trans u3;have qv:=bg (u2.pre.trans u3.pre) hk;have DP:cC.length<1000000:=eK.cJ (m:=1) room (nl rfl);have pk:=EK (n:=n+3) (d:=bump d) eK.t DP qv hr;have pf:=El (n:=n+1) (d:=bump d) eK.t DP qv hr;have qr:=qu raw;have e2:=dx i 2;have wr:=cV eK.t.t hr (show 14≠1 by decide);have wt:=cV eK.t.t qv (show 10≠1 by decide);have tail:∀{jA:List Row}{c:Nat},Up G jA c->c<=4->cC<+:jA->∃r me,ae (n+6) (181,0) [.obj 9,I t,I raw] (K jA (bump d))=sv (I r) (K me (bump d))/\ae (n+6) (64,3) [.obj 0,rv (.index t raw)] (K me (bump d))=sv (I r) (K me (bump d))/\Up G me 6:=λ{jA c} u hc pre=>by have Kk:jA.length<1000000:=u.cJ (m:=1) room (nT (Nat.succ_le_succ hc) (nl rfl));refine aw (fN (n:=n+3) (d:=bump d) (k:=.index t raw) u.t rfl Kk λU e=>nomatch e) λr me g1 g2 g3=>?_;have u5:=u.trans g2;exact aD r me (Em u.t (bg pre qv) ⟨wr 2 (by decide),wr 13 (by decide)⟩ g1 (El u.t Kk (bg pre qv) (bg pre hr))) (Aj (n:=n+5) u5.t (u5.cJ (m:=1) room (nT (Nat.succ_le_succ (Nat.succ_le_succ hc)) (nl rfl))) g3) (u5.mono (nT (Nat.succ_le_succ hc) (nl rfl)))
 by_cases q:i=2
 ·subst q;refine aw (tail eK (nl rfl) (List.prefix_refl _)) λr me g1 g2 u5=>?_;have ix:ae (n+6) (181,0) [.obj 9,I t,I 2] (K cC (bump d))=sv (I 2) (K cC (bump d)):=aa [.r (ip (n:=n+4) (d:=bump d) eK.t.t qv (show 10≠14 by decide) (show 10≠15 by decide)),.r (ip (n:=n+4) (d:=bump d) eK.t.t (bg eK.t.t.pre (rfl:dc[2]?=_)) (show 1≠14 by decide) (show 1≠15 by decide)),.b (neN (wt 13 (by decide))),.z 1,.b (neN (wt 0 (by decide))),.b (neN (wt 2 (by decide))),.z 1,.b (neN (wt 0 (by decide)))];exact af me (aa [.z 2,.r H,.z 1,.l (dI pick 12 (by decide)),.v sq.1,.r M,.r h3,.r pk,.b qr,.r pf,.b qr,.z 1,.r ix,.z 2,.r g1,.r g2,.b (sI r)]) u5
 ·rw [dF q] at e2;refine bc λBD=>aw (fN (n:=n+5) (d:=bump d) (k:=.index t i) eK.t rfl DP λU e=>nomatch e) λw jA c1 u4 c3=>?_;have sM:=eK.trans u4;exact aw (tail sM (nl rfl) u4.pre) λr me g1 g2 u5=>BD (af me (aa [.z 2,.r H,.z 1,.l (dI pick 12 (by decide)),.v sq.1,.r M,.r h3,.r pk,.b qr,.r pf,.b qr,.b e2,.r c1,.r (Em (n:=n) (d:=bump d) sM.t (bg u4.pre qv) ⟨q,(ki.up (u3.pre.trans u4.pre)).DJ sM.t.t⟩ (Aj (n:=n+3) sM.t (sM.cJ (m:=1) room (nl rfl)) c3) ((ki.up (u3.pre.trans u4.pre)).mG sM.t.t)),.b (sI w),.z 1,.r g1,.r g2,.b (sI r)]) u5)
end
structure Bs where
 decls:List V
 bounds:List V
 defaults:List V
 names:List V
structure Bs.ok (B:Bs):Prop where
 l0:B.decls.length<=50
 l1:B.bounds.length<=50
 l2:B.defaults.length<=50
 l3:B.names.length<=50
noncomputable def dL (B:Bs)(R:List (Nat×O))(nx:Nat):Sh:=⟨B.decls,B.bounds,B.defaults,B.names,R,nx⟩
noncomputable def SU (Y0 h:Nat)(b:Int):List (Str×V):=[(.ofString "did",I Y0),(.ofString "kind",.int 2),(.ofString "name",.str "D"),(.ofString "params",.tup []),(.ofString "body",.int b),(.ofString "bases",.tup []),(.ofString "static",.int (-1)),(.ofString "extends_class",.int 0),(.ofString "abstract",.bool false),(.ofString "members",.obj (h+1)),(.ofString "variances",.obj (h+2)),(.ofString "busy",.int 0),(.ofString "at",.int 0),(.ofString "file",.str ""),(.ofString "nid",.int 0)]
noncomputable def vq (B:Bs)(h:Nat):Bs:=⟨B.decls++[.obj h],B.bounds,B.defaults,B.names⟩
noncomputable abbrev mH (B:Bs)(h:Nat)(b:Int):O:=.inst "Decl" (SU B.decls.length h b)
noncomputable def gI (ns:List Nat)(i:Nat):Nat:=ns.getD (i%ns.length) 0+31*(i/ns.length)
section
variable{n x y p q pick i:Nat} {G:List Row} {B:Bs} {fs:List (Str×V)} {σ:St} {ns:List Nat}
def xk (h:0<ns.length)(hl:ns.length<=100)(hi:i<=100):ae (n+1) (193,0) [.list (ns.map I),I i] σ=sv (I (gI ns i)) σ:=by
 have ln:=Jv (xs:=ns.map I) (by rw [lM];exact nT hl (nl rfl));rw [lM] at ln;have le:i/ns.length<=100:=nT (Nat.div_le_self _ _) hi;have ml:fy .Mult (.int 31) (I (i/ns.length))=some (.val (I (31*(i/ns.length)))):=by show(guard (bQ 31&&bQ (i/ns.length:Nat)) (some (31*((i/ns.length:Nat):Int)))).bind _=_;refine (kT (show i/ns.length<=1000 by exact nT ‹_› (nl rfl))).symm▸?_;rfl
 exact aa [.v ln,.l (dI i ns.length h),.v (Jy (i:=i%ns.length) (Nat.mod_lt _ h) (nT hl (nl rfl))).1,.v ln,.l (e_ i ns.length h ((Nat.lt_of_le_of_lt ‹_› (nl rfl)))),.l ml,.z 1]
noncomputable abbrev b0 (B:Bs):Sh:=dL B [] 11
noncomputable abbrev w0 (B:Bs)(x y:Nat):Sh:=dL B [(11,.list [I x]),(12,.list [I y])] 13
def Bl:zb 11 12 (w0 B) where
 a:=λy=>⟨λn G x size h0 H=>by have md:=dI x size h0;have dv:=e_ x size h0 (lL H (nl rfl));exact aa [.z 1,.l md,.z 1,.l dv]⟩
 b:=λx=>⟨λn G y size h0 H=>by have md:=dI y size h0;have dv:=e_ y size h0 (lL H (nl rfl));exact aa [.z 1,.l md,.z 1,.l dv]⟩
 hd:=λG x y=>rfl
noncomputable abbrev z0 (B:Bs)(x y:Nat)(b:Int):Sh:=dL (vq B 13) [(11,.list [I x]),(12,.list [I y]),(13,mH B 13 b),(14,.list []),(15,.list [])] 16
def Wb (hB:B.ok):ae (n+2) (79,0) [.obj 0,.int 2,.str "D"] (K G (w0 B x y))=sv (.obj 13) (K G (z0 B x y (-1))):=by
 have ap:jg (.val (.obj 3)) "append" [.obj 13] (K G (dL B [(11,.list [I x]),(12,.list [I y]),(13,mH B 13 (-1)),(14,.list []),(15,.list [])] 16))=sv .none (K G (z0 B x y (-1))):=by show nK _ 3 B.decls "append" [.obj 13]=_;show guard (_==eL&&aY B.decls.length) _=_;rw [dy (nT hB.l0 (nl rfl))];rfl
 exact aa [.v (rY (xs:=B.decls) (nT hB.l0 (nl rfl))),.o (by kernel_rfl:f_ (ae (n+1)) "Decl" [I B.decls.length,.int 2,.str "D"] (K G (w0 B x y))=some (13,K G (dL B [(11,.list [I x]),(12,.list [I y]),(13,mH B 13 (-1)),(14,.list []),(15,.list [])] 16))),.r ap]
def Xz {b:Nat}(hB:B.ok):yU (z0 B x y b) B.decls.length b:=λn G t U s c h hk hb=>by have sb:cz (.ml (B.decls++[.obj 13])) (I B.decls.length)=some (.obj 13):=nq (by rw [List.getElem?_append_right (nR _),Nat.sub_self];rfl) (by refine List.length_append.symm▸List.length_singleton.symm▸?_;have:=hB.l0;exact Nat.lt_of_le_of_lt ‹_› (nl rfl));exact aa [.z 2,.f (cD (aX [.v (aQ h hk),.z 11,.v sb,.z 2,.v sb] (by kernel_rfl):∀Z,aZ n 11 (132,0) 0 (.int 0) (i8 t .unset .unset (K G (z0 B x y b))) Z=Z .next (i8 b (.val (.int 0)) (.val (rv (.ref B.decls.length))) (K G (z0 B x y b)))) (j0 (T:=yq.tail) (by kernel_rfl) (aX [.v (aQ h hb),.z 2] (by kernel_rfl):∀Z,aZ n 11 (132,0) 0 (.int 1) (i8 b (.val (.int 0)) (.val (rv (.ref B.decls.length))) (K G (z0 B x y b))) Z=Z (.ret (.val (I b))) (i8 b (.val (.int 1)) (.val (rv (.obj U s c))) (K G (z0 B x y b))))))]
def HF (hB:B.ok)(t:TT G)(room:G.length+61<=1000000):∃r v F x' N b,ae (n+17) (200,0) [.obj 0,I 4,I pick,.obj 11,.obj 12] (K G (w0 B x y))=sv (.tup [I r,v]) (K N (z0 B x' y b))/\Up G N 61/\eC N (z0 B x' y b) r F/\cL v F:=by exact bc λbu=>gJ (nF (n:=n+11) (x:=x) (hide:=true) ((Bl (B:=B)).a y) t (Nat.le_of_succ_le room)) λb O x' aj H u1 o1=>aw (fN (n:=n+15) (d:=z0 B x' y b) (k:=.ref B.decls.length) u1.t rfl (u1.room (m:=1) room) λU e=>nomatch e) λr aB M u2 h3=>bu (⟨r,_,.p (.a (.o O)),x',aB,b,aa [.z 3,.r H,.r (Wb (n:=n+14) (G:=aj) (x:=x') (y:=y) hB),.r M],u1.trans u2,.ref _ _ h3 (Xz hB) (rH u2.pre o1.at'),.o O o1.g⟩)
noncomputable abbrev b1 (B:Bs)(p q:Nat):Sh:=dL B [(11,.list [I p]),(12,.list [I q])] 13
noncomputable abbrev w1 (B:Bs)(p q x y:Nat):Sh:=dL B [(11,.list [I p]),(12,.list [I q]),(13,.list [I x]),(14,.list [I y])] 15
def HG:zb 13 14 (w1 B p q) where
 a:=λy=>⟨λn G x size h0 H=>by have md:=dI x size h0;have dv:=e_ x size h0 (lL H (nl rfl));exact aa [.z 1,.l md,.z 1,.l dv]⟩
 b:=λx=>⟨λn G y size h0 H=>by have md:=dI y size h0;have dv:=e_ y size h0 (lL H (nl rfl));exact aa [.z 1,.l md,.z 1,.l dv]⟩
 hd:=λG x y=>rfl
noncomputable abbrev z1 (B:Bs)(p q x y:Nat)(b:Int):Sh:=dL (vq B 15) [(11,.list [I p]),(12,.list [I q]),(13,.list [I x]),(14,.list [I y]),(15,mH B 15 b),(16,.list []),(17,.list [])] 18
def Wc (hB:B.ok):ae (n+2) (79,0) [.obj 0,.int 2,.str "D"] (K G (w1 B p q x y))=sv (.obj 15) (K G (z1 B p q x y (-1))):=by
 have ap:jg (.val (.obj 3)) "append" [.obj 15] (K G (dL B [(11,.list [I p]),(12,.list [I q]),(13,.list [I x]),(14,.list [I y]),(15,mH B 15 (-1)),(16,.list []),(17,.list [])] 18))=sv .none (K G (z1 B p q x y (-1))):=by show nK _ 3 B.decls "append" [.obj 15]=_;show guard (_==eL&&aY B.decls.length) _=_;rw [dy (nT hB.l0 (nl rfl))];rfl
 exact aa [.v (rY (xs:=B.decls) (nT hB.l0 (nl rfl))),.o (by kernel_rfl:f_ (ae (n+1)) "Decl" [I B.decls.length,.int 2,.str "D"] (K G (w1 B p q x y))=some (15,K G (dL B [(11,.list [I p]),(12,.list [I q]),(13,.list [I x]),(14,.list [I y]),(15,mH B 15 (-1)),(16,.list []),(17,.list [])] 18))),.r ap]
def XA {b:Nat}(hB:B.ok):yU (z1 B p q x y b) B.decls.length b:=λn G t U s c h hk hb=>by have sb:cz (.ml (B.decls++[.obj 15])) (I B.decls.length)=some (.obj 15):=nq (by rw [List.getElem?_append_right (nR _),Nat.sub_self];rfl) (by refine List.length_append.symm▸List.length_singleton.symm▸?_;have:=hB.l0;exact Nat.lt_of_le_of_lt ‹_› (nl rfl));exact aa [.z 2,.f (cD (aX [.v (aQ h hk),.z 11,.v sb,.z 2,.v sb] (by kernel_rfl):∀Z,aZ n 11 (132,0) 0 (.int 0) (i8 t .unset .unset (K G (z1 B p q x y b))) Z=Z .next (i8 b (.val (.int 0)) (.val (rv (.ref B.decls.length))) (K G (z1 B p q x y b)))) (j0 (T:=yq.tail) (by kernel_rfl) (aX [.v (aQ h hb),.z 2] (by kernel_rfl):∀Z,aZ n 11 (132,0) 0 (.int 1) (i8 b (.val (.int 0)) (.val (rv (.ref B.decls.length))) (K G (z1 B p q x y b))) Z=Z (.ret (.val (I b))) (i8 b (.val (.int 1)) (.val (rv (.obj U s c))) (K G (z1 B p q x y b))))))]
def SV (hB:B.ok)(t:TT G)(room:G.length+61<=1000000):∃r v F x' N b,ae (n+17) (200,0) [.obj 0,I 4,I pick,.obj 13,.obj 14] (K G (w1 B p q x y))=sv (.tup [I r,v]) (K N (z1 B p q x' y b))/\Up G N 61/\eC N (z1 B p q x' y b) r F/\cL v F:=by exact bc λeY=>gJ (nF (n:=n+11) (x:=x) (hide:=true) ((HG (B:=B) (p:=p) (q:=q)).a y) t (Nat.le_of_succ_le room)) λb O x' aj H u1 o1=>aw (fN (n:=n+15) (d:=z1 B p q x' y b) (k:=.ref B.decls.length) u1.t rfl (u1.room (m:=1) room) λU e=>nomatch e) λr aB M u2 h3=>eY (⟨r,_,.p (.a (.o O)),x',aB,b,aa [.z 3,.r H,.r (Wc (n:=n+14) (G:=aj) (x:=x') (y:=y) (p:=p) (q:=q) hB),.r M],u1.trans u2,.ref _ _ h3 (XA hB) (rH u2.pre o1.at'),.o O o1.g⟩)
noncomputable abbrev b2 (B:Bs)(p q:Nat)(fs:List (Str×V)):Sh:=dL B [(11,.list [I p]),(12,.list [I q]),(13,.inst "Decl" fs),(14,.list []),(15,.list [])] 16
noncomputable abbrev w2 (B:Bs)(p q:Nat)(fs:List (Str×V))(x y:Nat):Sh:=dL B [(11,.list [I p]),(12,.list [I q]),(13,.inst "Decl" fs),(14,.list []),(15,.list []),(16,.list [I x]),(17,.list [I y])] 18
def HH:zb 16 17 (w2 B p q fs) where
 a:=λy=>⟨λn G x size h0 H=>by have md:=dI x size h0;have dv:=e_ x size h0 (lL H (nl rfl));exact aa [.z 1,.l md,.z 1,.l dv]⟩
 b:=λx=>⟨λn G y size h0 H=>by have md:=dI y size h0;have dv:=e_ y size h0 (lL H (nl rfl));exact aa [.z 1,.l md,.z 1,.l dv]⟩
 hd:=λG x y=>rfl
noncomputable abbrev z2 (B:Bs)(p q:Nat)(fs:List (Str×V))(x y:Nat)(b:Int):Sh:=dL (vq B 18) [(11,.list [I p]),(12,.list [I q]),(13,.inst "Decl" fs),(14,.list []),(15,.list []),(16,.list [I x]),(17,.list [I y]),(18,mH B 18 b),(19,.list []),(20,.list [])] 21
def We (hB:B.ok):ae (n+2) (79,0) [.obj 0,.int 2,.str "D"] (K G (w2 B p q fs x y))=sv (.obj 18) (K G (z2 B p q fs x y (-1))):=by
 have ap:jg (.val (.obj 3)) "append" [.obj 18] (K G (dL B [(11,.list [I p]),(12,.list [I q]),(13,.inst "Decl" fs),(14,.list []),(15,.list []),(16,.list [I x]),(17,.list [I y]),(18,mH B 18 (-1)),(19,.list []),(20,.list [])] 21))=sv .none (K G (z2 B p q fs x y (-1))):=by show nK _ 3 B.decls "append" [.obj 18]=_;show guard (_==eL&&aY B.decls.length) _=_;rw [dy (nT hB.l0 (nl rfl))];rfl
 exact aa [.v (rY (xs:=B.decls) (nT hB.l0 (nl rfl))),.o (by kernel_rfl:f_ (ae (n+1)) "Decl" [I B.decls.length,.int 2,.str "D"] (K G (w2 B p q fs x y))=some (18,K G (dL B [(11,.list [I p]),(12,.list [I q]),(13,.inst "Decl" fs),(14,.list []),(15,.list []),(16,.list [I x]),(17,.list [I y]),(18,mH B 18 (-1)),(19,.list []),(20,.list [])] 21))),.r ap]
def XB {b:Nat}(hB:B.ok):yU (z2 B p q fs x y b) B.decls.length b:=λn G t U s c h hk hb=>by have sb:cz (.ml (B.decls++[.obj 18])) (I B.decls.length)=some (.obj 18):=nq (by rw [List.getElem?_append_right (nR _),Nat.sub_self];rfl) (by refine List.length_append.symm▸List.length_singleton.symm▸?_;have:=hB.l0;exact Nat.lt_of_le_of_lt ‹_› (nl rfl));exact aa [.z 2,.f (cD (aX [.v (aQ h hk),.z 11,.v sb,.z 2,.v sb] (by kernel_rfl):∀Z,aZ n 11 (132,0) 0 (.int 0) (i8 t .unset .unset (K G (z2 B p q fs x y b))) Z=Z .next (i8 b (.val (.int 0)) (.val (rv (.ref B.decls.length))) (K G (z2 B p q fs x y b)))) (j0 (T:=yq.tail) (by kernel_rfl) (aX [.v (aQ h hb),.z 2] (by kernel_rfl):∀Z,aZ n 11 (132,0) 0 (.int 1) (i8 b (.val (.int 0)) (.val (rv (.ref B.decls.length))) (K G (z2 B p q fs x y b))) Z=Z (.ret (.val (I b))) (i8 b (.val (.int 1)) (.val (rv (.obj U s c))) (K G (z2 B p q fs x y b))))))]
def SW (hB:B.ok)(t:TT G)(room:G.length+61<=1000000):∃r v F x' N b,ae (n+17) (200,0) [.obj 0,I 4,I pick,.obj 16,.obj 17] (K G (w2 B p q fs x y))=sv (.tup [I r,v]) (K N (z2 B p q fs x' y b))/\Up G N 61/\eC N (z2 B p q fs x' y b) r F/\cL v F:=by exact bc λm5=>bc λpJ=>gJ (nF (n:=n+11) (x:=x) (hide:=true) ((HH (B:=B) (p:=p) (q:=q) (fs:=fs)).a y) t (Nat.le_of_succ_le room)) λb O x' aj H u1 o1=>aw (fN (n:=n+15) (d:=z2 B p q fs x' y b) (k:=.ref B.decls.length) u1.t rfl (u1.room (m:=1) room) λU e=>nomatch e) λr aB M u2 h3=>pJ (m5 (⟨r,_,.p (.a (.o O)),x',aB,b,aa [.z 3,.r H,.r (We (n:=n+14) (G:=aj) (x:=x') (y:=y) (p:=p) (q:=q) (fs:=fs) hB),.r M],u1.trans u2,.ref _ _ h3 (XB hB) (rH u2.pre o1.at'),.o O o1.g⟩))
end
noncomputable def rM (B:Bs):Bs:=⟨B.decls,B.bounds++[.int (-1)],B.defaults++[.int (-1)],B.names++[.str "T"]⟩
def RD (B:Bs)(d:Sh):Prop:=d=b0 (rM B)\/(∃p q,d=b1 B p q)\/∃p q fs,d=b2 (vq B 13) p q fs
section
variable{n j p q:Nat} {G:List Row} {B:Bs} {fs:List (Str×V)} {ns:List Nat} {script lap form pick fresh a b t plain:LV} {l:E2}
def yx (h:j<2):fy .Mult (.int 3) (I j)=some (.val (I (3*j))):=by show(guard (bQ 3&&bQ j) (some (3*(j:Int)))).bind _=_;refine (kT (nT (Nat.le_of_lt h) (nl rfl))).symm▸?_;rfl
def wz {f:Nat}(h:f%7≠6):(f%7=0\/f%7=1\/f%7=2\/f%7=3\/f%7=5)\/f%7=4:=(f7 (md rfl) ‹_›)
def Wf (hj:j<2)(hB:B.ok)(t0:TT G)(room:G.length+3400<=1000000)(hn:0<ns.length)(hl:ns.length<=100):
  ∃fl e' l' N d',(∀Z,aZ (n+24) 11 (207,0) 0 (I j) (lw ⟨script,.ml (ns.map I),lap,form,pick,fresh,a,b,t,plain⟩ l (K G (b0 B))) Z=Z fl (lw e' l' (K N d')))/\(fl=.next\/fl=.cont)/\Up G N 3400/\e'.nums=.val (.list (ns.map I))/\RD B d':=by
 have m3:=yx hj;have dr:=λσ i h=>xk (n:=n+23) (σ:=σ) (i:=i) hn hl h;have d0:=dr (K G (b0 B)) (3*j) (j3 (c:=0) hj rfl);have d1:=dr (K G (b0 B)) (3*j+1) (j3 hj rfl);have d2:=dr (K G (dL B [(11,.list [I (gI ns (3*j+1))])] 12)) (3*j+2) (j3 hj rfl);generalize gI ns (3*j+1)=x at d1 d2;generalize gI ns (3*j+2)=y at d2;generalize gI ns (3*j)=f at d0;have e6:=dx (f%7) 6;have fin:∀{fl:Fl}{e':E1}{l':E2}{N:List Row}{d':Sh},(∀Z,cW (n+24) 11 (207,0) 0 0 19 (lw ⟨script,.ml (ns.map I),.val (I j),form,pick,fresh,a,b,t,plain⟩ l (K G (b0 B))) Z=Z fl (lw e' l' (K N d')))->∀Z,aZ (n+24) 11 (207,0) 0 (I j) (lw ⟨script,.ml (ns.map I),lap,form,pick,fresh,a,b,t,plain⟩ l (K G (b0 B))) Z=Z fl (lw e' l' (K N d')):=λh=>sW (s:=.ofString "lap") (by kernel_rfl) (by kernel_rfl) (by kernel_rfl) h;by_cases q6:f%7=6
 ·rw [dT q6] at e6;obtain ⟨aj,st,u1⟩:=wy (n:=n+17) (pick:=f/7) (d:=b0 B) t0 (nT (nA (by decide) _) room) (nT hB.l1 (by decide)) (nT hB.l2 (by decide)) (nT hB.l3 (by decide));have H:∀Z,cW (n+24) 11 (207,0) 0 0 4 (lw ⟨script,.ml (ns.map I),.val (I j),form,pick,fresh,a,b,t,plain⟩ l (K G (b0 B))) Z=Z .cont (lw ⟨script,.val (.list (ns.map I)),.val (I j),.val (I f),.val (I (f/7)),.val (I (f/7/2%2)),a,b,t,plain⟩ l (K aj (b0 (rM B)))):=fx [.l m3,.r d0,.l (e_ f 7 (by decide) (by decide)),.l (e_ (f/7) 2 (by decide) (by decide)),.l (dI (f/7/2) 2 (by decide)),.l (dI f 7 (by decide)),.b e6,.r st];exact rN .cont _ _ aj _ (fin (wR (l2:=15) (λh=>yD h rfl) H)) (.inr rfl) (u1.mono (by decide)) rfl (.inl rfl)
 ·rw [dF q6] at e6;have go:∀{r:Nat}{v:V}{F:Fu}{aj:List Row}{d':Sh},ae (n+24) (200,0) [.obj 0,I (f%7),I (f/7),.obj 11,.obj 12] (K G (w0 B x y))=sv (.tup [I r,v]) (K aj d')->Up G aj 200->eC aj d' r F->cL v F->
    ∃fl e' l' N,(∀Z,aZ (n+24) 11 (207,0) 0 (I j) (lw ⟨script,.ml (ns.map I),lap,form,pick,fresh,a,b,t,plain⟩ l (K G (b0 B))) Z=Z fl (lw e' l' (K N d')))/\(fl=.next\/fl=.cont)/\Up G N 3400/\e'.nums=.val (.list (ns.map I)):=λ{r v F aj d'} hs u1 sf pv=>by
   have H:∀Z,cW (n+24) 11 (207,0) 0 0 7 (lw ⟨script,.ml (ns.map I),.val (I j),form,pick,fresh,a,b,t,plain⟩ l (K G (b0 B))) Z=Z .next (lw (E1.at ⟨script,.val (.list (ns.map I)),.val (I j),.val (I f),.unset,.unset,.val (.obj 11),.val (.obj 12),.unset,.unset⟩ r v (f/7) (f/7/2%2)) l (K aj d')):=fx [.l m3,.r d0,.l (e_ f 7 (by decide) (by decide)),.l (e_ (f/7) 2 (by decide) (by decide)),.l (dI (f/7/2) 2 (by decide)),.l (dI f 7 (by decide)),.b e6,.l m3,.z 1,.r d1,.l m3,.z 1,.r d2,.l (dI f 7 (by decide)),.r hs];exact aG (wV (n:=n) (e:=⟨script,.val (.list (ns.map I)),.val (I j),.val (I f),.unset,.unset,.val (.obj 11),.val (.obj 12),.unset,.unset⟩) (pick:=f/7) (fresh:=f/7/2%2) (l:=l) u1.t (u1.room room) sf pv) λl2 aB M u2=>kh .next _ _ aB (fin (mf (l2:=12) H M)) (.inl rfl) (u1.trans u2) rfl
  refine (wz q6).elim (λhf=>?_) (λhf=>?_)
  ·obtain ⟨r,v,F,x',y',aj,H,u1,sf,pv⟩:=wH (pick:=f/7) (y:=y) (Bl) t0 (nT (nA (nl rfl) _) room) hf;obtain ⟨fl,e',l',N,g1,g2,g3,g4⟩:=go H u1 sf pv;exact ⟨fl,e',l',N,_,g1,g2,g3,g4,.inr (.inl (dB x' y' rfl))⟩
  ·obtain ⟨r,v,F,x',aj,b',H,u1,sf,pv⟩:=HF (n:=n+7) (pick:=f/7) (x:=x) (y:=y) hB t0 (nT (nA (nl rfl) _) room);rw [<-hf] at H;obtain ⟨fl,e',l',N,g1,g2,g3,g4⟩:=go H (u1.mono (by decide)) sf pv;exact ⟨fl,e',l',N,_,g1,g2,g3,g4,.inr (.inr (iP x' _ _ rfl))⟩
def Wg (hj:j<2)(hB:B.ok)(t0:TT G)(room:G.length+3400<=1000000)(hn:0<ns.length)(hl:ns.length<=100):
  ∃fl e' l' N d',(∀Z,aZ (n+24) 11 (207,0) 0 (I j) (lw ⟨script,.val (.list (ns.map I)),lap,form,pick,fresh,a,b,t,plain⟩ l (K G (b0 B))) Z=Z fl (lw e' l' (K N d')))/\(fl=.next\/fl=.cont)/\Up G N 3400/\e'.nums=.val (.list (ns.map I))/\True:=by
 have m3:=yx hj;have dr:=λσ i (h:i<=100)=>xk (n:=n+23) (σ:=σ) (i:=i) hn hl h;have d0:=dr (K G (b0 B)) (3*j) (j3 (c:=0) hj rfl);have d1:=dr (K G (b0 B)) (3*j+1) (j3 hj rfl);have d2:=dr (K G (dL B [(11,.list [I (gI ns (3*j+1))])] 12)) (3*j+2) (j3 hj rfl);generalize gI ns (3*j+1)=x at d1 d2;generalize gI ns (3*j+2)=y at d2;generalize gI ns (3*j)=f at d0;have oN:=e_ (f/7) 2 (by decide) (by decide);have m7:=dI f 7 (by decide);have e6:=dx (f%7) 6;have fin:∀{fl:Fl}{e':E1}{l':E2}{N:List Row}{d':Sh},(∀Z,cW (n+24) 11 (207,0) 0 0 19 (lw ⟨script,.val (.list (ns.map I)),.val (I j),form,pick,fresh,a,b,t,plain⟩ l (K G (b0 B))) Z=Z fl (lw e' l' (K N d')))->∀Z,aZ (n+24) 11 (207,0) 0 (I j) (lw ⟨script,.val (.list (ns.map I)),lap,form,pick,fresh,a,b,t,plain⟩ l (K G (b0 B))) Z=Z fl (lw e' l' (K N d')):=λh=>sW (L:=19) (s:=.ofString "lap") (by kernel_rfl) (by kernel_rfl) (by kernel_rfl) h;by_cases q6:f%7=6
 ·rw [dT q6] at e6;obtain ⟨aj,st,u1⟩:=wy (n:=n+17) (pick:=f/7) (d:=b0 B) t0 (nT (nA (by decide) _) room) (nT hB.l1 (by decide)) (nT hB.l2 (by decide)) (nT hB.l3 (by decide));have H:∀Z,cW (n+24) 11 (207,0) 0 0 4 (lw ⟨script,.val (.list (ns.map I)),.val (I j),form,pick,fresh,a,b,t,plain⟩ l (K G (b0 B))) Z=Z .cont (lw ⟨script,.val (.list (ns.map I)),.val (I j),.val (I f),.val (I (f/7)),.val (I (f/7/2%2)),a,b,t,plain⟩ l (K aj (b0 (rM B)))):=fx [.l m3,.r d0,.l (e_ f 7 (by decide) (by decide)),.l oN,.l (dI (f/7/2) 2 (by decide)),.l m7,.b e6,.r st];exact rN .cont _ _ aj _ (fin (wR (l1:=4) (l2:=15) (λh=>yD h rfl) H)) (.inr rfl) (u1.mono (by decide)) rfl trivial
 ·rw [dF q6] at e6;have go:∀{r:Nat}{v:V}{F:Fu}{aj:List Row}{d':Sh},ae (n+24) (200,0) [.obj 0,I (f%7),I (f/7),.obj 11,.obj 12] (K G (w0 B x y))=sv (.tup [I r,v]) (K aj d')->Up G aj 200->eC aj d' r F->cL v F->
    ∃fl e' l' N,(∀Z,aZ (n+24) 11 (207,0) 0 (I j) (lw ⟨script,.val (.list (ns.map I)),lap,form,pick,fresh,a,b,t,plain⟩ l (K G (b0 B))) Z=Z fl (lw e' l' (K N d')))/\(fl=.next\/fl=.cont)/\Up G N 3400/\e'.nums=.val (.list (ns.map I)):=λ{r v F aj d'} hs u1 sf pv=>by
   have H:∀Z,cW (n+24) 11 (207,0) 0 0 7 (lw ⟨script,.val (.list (ns.map I)),.val (I j),form,pick,fresh,a,b,t,plain⟩ l (K G (b0 B))) Z=Z .next (lw (E1.at ⟨script,.val (.list (ns.map I)),.val (I j),.val (I f),.unset,.unset,.val (.obj 11),.val (.obj 12),.unset,.unset⟩ r v (f/7) (f/7/2%2)) l (K aj d')):=by unfold E1.at;exact fx [.l m3,.r d0,.l (e_ f 7 (by decide) (by decide)),.l oN,.l (dI (f/7/2) 2 (by decide)),.l m7,.b e6,.l m3,.z 1,.r d1,.l m3,.z 1,.r d2,.l m7,.r hs]
   exact aG (wV (n:=n) (e:=⟨script,.val (.list (ns.map I)),.val (I j),.val (I f),.unset,.unset,.val (.obj 11),.val (.obj 12),.unset,.unset⟩) (pick:=f/7) (fresh:=f/7/2%2) (l:=l) u1.t (u1.room (m:=3200) room) sf pv) λl2 aB M u2=>kh .next _ _ aB (fin (mf (l1:=7) (l2:=12) H M)) (.inl rfl) (u1.trans u2) rfl
  refine (wz q6).elim (λhf=>?_) (λhf=>?_)
  ·obtain ⟨r,v,F,x',y',aj,H,u1,sf,pv⟩:=wH (n:=n+7) (pick:=f/7) (x:=x) (y:=y) (Bl (B:=B)) t0 (nT (nA (by decide) _) room) hf;obtain ⟨fl,e',l',N,g1,g2,g3,g4⟩:=go H u1 sf pv;exact ⟨fl,e',l',N,_,g1,g2,g3,g4,trivial⟩
  ·obtain ⟨r,v,F,x',aj,b',H,u1,sf,pv⟩:=HF (n:=n+7) (pick:=f/7) (x:=x) (y:=y) hB t0 (nT (nA (by decide) _) room);rw [<-hf] at H;obtain ⟨fl,e',l',N,g1,g2,g3,g4⟩:=go H (u1.mono (by decide)) sf pv;exact ⟨fl,e',l',N,_,g1,g2,g3,g4,trivial⟩
def Wh (hj:j<2)(hB:B.ok)(t0:TT G)(room:G.length+3400<=1000000)(hn:0<ns.length)(hl:ns.length<=100):
  ∃fl e' l' N d',(∀Z,aZ (n+24) 11 (207,0) 0 (I j) (lw ⟨script,.val (.list (ns.map I)),lap,form,pick,fresh,a,b,t,plain⟩ l (K G (b1 B p q))) Z=Z fl (lw e' l' (K N d')))/\(fl=.next\/fl=.cont)/\Up G N 3400/\e'.nums=.val (.list (ns.map I))/\True:=by
 have m3:=yx hj;have dr:=λσ i (h:i<=100)=>xk (n:=n+23) (σ:=σ) (i:=i) hn hl h;have d0:=dr (K G (b1 B p q)) (3*j) (j3 (c:=0) hj rfl);have d1:=dr (K G (b1 B p q)) (3*j+1) (j3 hj rfl);have d2:=dr (K G (dL B [(11,.list [I p]),(12,.list [I q]),(13,.list [I (gI ns (3*j+1))])] 14)) (3*j+2) (j3 hj rfl);generalize gI ns (3*j+1)=x at d1 d2;generalize gI ns (3*j+2)=y at d2;generalize gI ns (3*j)=f at d0;have v5:=e_ f 7 (by decide) (by decide);have oN:=e_ (f/7) 2 (by decide) (by decide);have v8:=dI (f/7/2) 2 (by decide);have m7:=dI f 7 (by decide);have e6:=dx (f%7) 6;have fin:∀{fl:Fl}{e':E1}{l':E2}{N:List Row}{d':Sh},(∀Z,cW (n+24) 11 (207,0) 0 0 19 (lw ⟨script,.val (.list (ns.map I)),.val (I j),form,pick,fresh,a,b,t,plain⟩ l (K G (b1 B p q))) Z=Z fl (lw e' l' (K N d')))->∀Z,aZ (n+24) 11 (207,0) 0 (I j) (lw ⟨script,.val (.list (ns.map I)),lap,form,pick,fresh,a,b,t,plain⟩ l (K G (b1 B p q))) Z=Z fl (lw e' l' (K N d')):=λh=>sW (L:=19) (s:=.ofString "lap") (by kernel_rfl) (by kernel_rfl) (by kernel_rfl) h;by_cases q6:f%7=6
 ·rw [dT q6] at e6;obtain ⟨aj,st,u1⟩:=wy (n:=n+17) (pick:=f/7) (d:=b1 B p q) t0 (nT (nA (by decide) _) room) (nT hB.l1 (by decide)) (nT hB.l2 (by decide)) (nT hB.l3 (by decide));have H:∀Z,cW (n+24) 11 (207,0) 0 0 4 (lw ⟨script,.val (.list (ns.map I)),.val (I j),form,pick,fresh,a,b,t,plain⟩ l (K G (b1 B p q))) Z=Z .cont (lw ⟨script,.val (.list (ns.map I)),.val (I j),.val (I f),.val (I (f/7)),.val (I (f/7/2%2)),a,b,t,plain⟩ l (K aj (b1 (rM B) p q))):=fx [.l m3,.r d0,.l v5,.l oN,.l v8,.l m7,.b e6,.r st];exact ⟨.cont,_,_,aj,_,fin (wR (l1:=4) (l2:=15) (λh=>yD h rfl) H),.inr rfl,u1.mono (by decide),rfl,trivial⟩
 ·rw [dF q6] at e6;have go:∀{r:Nat}{v:V}{F:Fu}{aj:List Row}{d':Sh},ae (n+24) (200,0) [.obj 0,I (f%7),I (f/7),.obj 13,.obj 14] (K G (w1 B p q x y))=sv (.tup [I r,v]) (K aj d')->Up G aj 200->eC aj d' r F->cL v F->
    ∃fl e' l' N,(∀Z,aZ (n+24) 11 (207,0) 0 (I j) (lw ⟨script,.val (.list (ns.map I)),lap,form,pick,fresh,a,b,t,plain⟩ l (K G (b1 B p q))) Z=Z fl (lw e' l' (K N d')))/\(fl=.next\/fl=.cont)/\Up G N 3400/\e'.nums=.val (.list (ns.map I)):=λ{r v F aj d'} hs u1 sf pv=>by
   have H:∀Z,cW (n+24) 11 (207,0) 0 0 7 (lw ⟨script,.val (.list (ns.map I)),.val (I j),form,pick,fresh,a,b,t,plain⟩ l (K G (b1 B p q))) Z=Z .next (lw (E1.at ⟨script,.val (.list (ns.map I)),.val (I j),.val (I f),.unset,.unset,.val (.obj 13),.val (.obj 14),.unset,.unset⟩ r v (f/7) (f/7/2%2)) l (K aj d')):=by unfold E1.at;exact fx [.l m3,.r d0,.l v5,.l oN,.l v8,.l m7,.b e6,.l m3,.z 1,.r d1,.l m3,.z 1,.r d2,.l m7,.r hs]
   obtain ⟨l2,aB,M,u2⟩:=wV (n:=n) (e:=⟨script,.val (.list (ns.map I)),.val (I j),.val (I f),.unset,.unset,.val (.obj 13),.val (.obj 14),.unset,.unset⟩) (pick:=f/7) (fresh:=f/7/2%2) (l:=l) u1.t (u1.room (m:=3200) room) sf pv;exact ⟨.next,_,_,aB,fin (mf (l1:=7) (l2:=12) H M),.inl rfl,u1.trans u2,rfl⟩
  rcases wz q6 with hf|hf
  ·obtain ⟨r,v,F,x',y',aj,H,u1,sf,pv⟩:=wH (n:=n+7) (pick:=f/7) (x:=x) (y:=y) (HG (B:=B) (p:=p) (q:=q)) t0 (nT (nA (by decide) _) room) hf;obtain ⟨fl,e',l',N,g1,g2,g3,g4⟩:=go H u1 sf pv;exact ⟨fl,e',l',N,_,g1,g2,g3,g4,trivial⟩
  ·obtain ⟨r,v,F,x',aj,b',H,u1,sf,pv⟩:=SV (n:=n+7) (pick:=f/7) (x:=x) (y:=y) (p:=p) (q:=q) hB t0 (nT (nA (by decide) _) room);rw [<-hf] at H;obtain ⟨fl,e',l',N,g1,g2,g3,g4⟩:=go H (u1.mono (by decide)) sf pv;exact ⟨fl,e',l',N,_,g1,g2,g3,g4,trivial⟩
def Wi (hj:j<2)(hB:B.ok)(t0:TT G)(room:G.length+3400<=1000000)(hn:0<ns.length)(hl:ns.length<=100):
  ∃fl e' l' N d',(∀Z,aZ (n+24) 11 (207,0) 0 (I j) (lw ⟨script,.val (.list (ns.map I)),lap,form,pick,fresh,a,b,t,plain⟩ l (K G (b2 B p q fs))) Z=Z fl (lw e' l' (K N d')))/\(fl=.next\/fl=.cont)/\Up G N 3400/\e'.nums=.val (.list (ns.map I))/\True:=by
 have m3:=yx hj;have dr:=λσ i (h:i<=100)=>xk (n:=n+23) (σ:=σ) (i:=i) hn hl h;have d0:=dr (K G (b2 B p q fs)) (3*j) (j3 (c:=0) hj rfl);have d1:=dr (K G (b2 B p q fs)) (3*j+1) (j3 hj rfl);have d2:=dr (K G (dL B [(11,.list [I p]),(12,.list [I q]),(13,.inst "Decl" fs),(14,.list []),(15,.list []),(16,.list [I (gI ns (3*j+1))])] 17)) (3*j+2) (j3 hj rfl);generalize gI ns (3*j+1)=x at d1 d2;generalize gI ns (3*j+2)=y at d2;generalize gI ns (3*j)=f at d0;have v5:=e_ f 7 (by decide) (by decide);have oN:=e_ (f/7) 2 (by decide) (by decide);have v8:=dI (f/7/2) 2 (by decide);have m7:=dI f 7 (by decide);have e6:=dx (f%7) 6;have fin:∀{fl:Fl}{e':E1}{l':E2}{N:List Row}{d':Sh},(∀Z,cW (n+24) 11 (207,0) 0 0 19 (lw ⟨script,.val (.list (ns.map I)),.val (I j),form,pick,fresh,a,b,t,plain⟩ l (K G (b2 B p q fs))) Z=Z fl (lw e' l' (K N d')))->∀Z,aZ (n+24) 11 (207,0) 0 (I j) (lw ⟨script,.val (.list (ns.map I)),lap,form,pick,fresh,a,b,t,plain⟩ l (K G (b2 B p q fs))) Z=Z fl (lw e' l' (K N d')):=λh=>sW (L:=19) (s:=.ofString "lap") (by kernel_rfl) (by kernel_rfl) (by kernel_rfl) h;by_cases q6:f%7=6
 ·rw [dT q6] at e6;obtain ⟨aj,st,u1⟩:=wy (n:=n+17) (pick:=f/7) (d:=b2 B p q fs) t0 (nT (nA (by decide) _) room) (nT hB.l1 (by decide)) (nT hB.l2 (by decide)) (nT hB.l3 (by decide));have H:∀Z,cW (n+24) 11 (207,0) 0 0 4 (lw ⟨script,.val (.list (ns.map I)),.val (I j),form,pick,fresh,a,b,t,plain⟩ l (K G (b2 B p q fs))) Z=Z .cont (lw ⟨script,.val (.list (ns.map I)),.val (I j),.val (I f),.val (I (f/7)),.val (I (f/7/2%2)),a,b,t,plain⟩ l (K aj (b2 (rM B) p q fs))):=fx [.l m3,.r d0,.l v5,.l oN,.l v8,.l m7,.b e6,.r st];exact ⟨.cont,_,_,aj,_,fin (wR (l1:=4) (l2:=15) (λh=>yD h rfl) H),.inr rfl,u1.mono (by decide),rfl,trivial⟩
 ·rw [dF q6] at e6;have go:∀{r:Nat}{v:V}{F:Fu}{aj:List Row}{d':Sh},ae (n+24) (200,0) [.obj 0,I (f%7),I (f/7),.obj 16,.obj 17] (K G (w2 B p q fs x y))=sv (.tup [I r,v]) (K aj d')->Up G aj 200->eC aj d' r F->cL v F->
    ∃fl e' l' N,(∀Z,aZ (n+24) 11 (207,0) 0 (I j) (lw ⟨script,.val (.list (ns.map I)),lap,form,pick,fresh,a,b,t,plain⟩ l (K G (b2 B p q fs))) Z=Z fl (lw e' l' (K N d')))/\(fl=.next\/fl=.cont)/\Up G N 3400/\e'.nums=.val (.list (ns.map I)):=λ{r v F aj d'} hs u1 sf pv=>by
   have H:∀Z,cW (n+24) 11 (207,0) 0 0 7 (lw ⟨script,.val (.list (ns.map I)),.val (I j),form,pick,fresh,a,b,t,plain⟩ l (K G (b2 B p q fs))) Z=Z .next (lw (E1.at ⟨script,.val (.list (ns.map I)),.val (I j),.val (I f),.unset,.unset,.val (.obj 16),.val (.obj 17),.unset,.unset⟩ r v (f/7) (f/7/2%2)) l (K aj d')):=by unfold E1.at;exact fx [.l m3,.r d0,.l v5,.l oN,.l v8,.l m7,.b e6,.l m3,.z 1,.r d1,.l m3,.z 1,.r d2,.l m7,.r hs]
   obtain ⟨l2,aB,M,u2⟩:=wV (n:=n) (e:=⟨script,.val (.list (ns.map I)),.val (I j),.val (I f),.unset,.unset,.val (.obj 16),.val (.obj 17),.unset,.unset⟩) (pick:=f/7) (fresh:=f/7/2%2) (l:=l) u1.t (u1.room (m:=3200) room) sf pv;exact ⟨.next,_,_,aB,fin (mf (l1:=7) (l2:=12) H M),.inl rfl,u1.trans u2,rfl⟩
  rcases wz q6 with hf|hf
  ·obtain ⟨r,v,F,x',y',aj,H,u1,sf,pv⟩:=wH (n:=n+7) (pick:=f/7) (x:=x) (y:=y) (HH (B:=B) (p:=p) (q:=q) (fs:=fs)) t0 (nT (nA (by decide) _) room) hf;obtain ⟨fl,e',l',N,g1,g2,g3,g4⟩:=go H u1 sf pv;exact ⟨fl,e',l',N,_,g1,g2,g3,g4,trivial⟩
  ·obtain ⟨r,v,F,x',aj,b',H,u1,sf,pv⟩:=SW (n:=n+7) (pick:=f/7) (x:=x) (y:=y) (p:=p) (q:=q) (fs:=fs) hB t0 (nT (nA (by decide) _) room);rw [<-hf] at H;obtain ⟨fl,e',l',N,g1,g2,g3,g4⟩:=go H (u1.mono (by decide)) sf pv;exact ⟨fl,e',l',N,_,g1,g2,g3,g4,trivial⟩
end
noncomputable def B0:Bs:=⟨[.none],[],[],[]⟩
noncomputable def ID:St:=⟨[(0,.inst "TypeTable" Iq),(1,.list (dc.map rv)),(2,.dict (cQ 0 (dc.map rv))),(3,.list [.none]),(4,.list []),(5,.list []),(6,.list []),(7,.dict []),(8,.dict [])],9⟩
def G2 (n:Nat):f_ (ae (n+2)) "TypeTable" [] ⟨[],0⟩=some (0,ID):=by kernel_rfl
def Gb (n:Nat):f_ (ae (n+2)) "KeyHost" [.obj 0] ID=some (9,K dc (b0 B0)):=by kernel_rfl
def PW:TT dc where
 t:=⟨List.prefix_refl _,λk hk=>by
  have:dc.all iZ=true:=by kernel_rfl
  exact aE this k hk,E6 (by kernel_rfl),nl rfl⟩
 un:=λi U hi d9=>by
  have:(List.range 16).all (λi=>decide (i=12)||((dc[i]?).bind g9).isNone)=true:=by kernel_rfl
  have:=aE this i (rI ((dR hi).1));replace this:=hi▸(dF d9)▸this;exact aS this
noncomputable def sh (z:Int):Nat:=(z.fmod 9999991).toNat
def XC (z:Int):fy .Mod (.int z) (.int 9999991)=some (.val (I (sh z))):=by show some (LV.val (.int (z.fmod 9999991)))=some (LV.val (.int ((z.fmod 9999991).toNat)));rw [Int.toNat_of_nonneg (by rw [Int.fmod_eq_emod_of_nonneg _ (by decide)];exact Int.emod_nonneg _ (by decide))]
noncomputable def Y1 (script:V):bL:=[nv "script" (.val script),nv "nums" .unset,nv "tab" .unset,nv "host" .unset,nv "lap" .unset,nv "form" .unset,nv "pick" .unset,nv "fresh" .unset,nv "a" .unset,nv "b" .unset,nv "t" .unset,nv "plain" .unset,nv "mask" .unset,nv "found" .unset,nv "raw" .unset,nv "keys" .unset,nv "place" .unset,nv "key" .unset,nv "idx" .unset,nv "want" .unset,nv "made" .unset,nv "first" .unset,nv "second" .unset]
noncomputable def Kl:E2:=⟨.unset,.unset,.unset,.unset,.unset,.unset,.unset,.unset,.unset,.unset,.unset⟩
section
variable{n:Nat} {zs:List Int} {ns:List Nat}
def Km:B0.ok:=⟨nl rfl,nl rfl,nl rfl,nl rfl⟩
def Y2:(rM B0).ok:=⟨nl rfl,nl rfl,nl rfl,nl rfl⟩
def Y3:(vq B0 13).ok:=⟨nl rfl,nl rfl,nl rfl,nl rfl⟩
def JA (hn:0<ns.length)(hl:ns.length<=6){script lap form pick fresh a b t plain:LV}{l:E2}:∃e' l' σ,∀Z,cF (n+24) 11 (207,0) 0 ((List.range ((ns.length+2)/3)).map I) (lw ⟨script,.ml (ns.map I),lap,form,pick,fresh,a,b,t,plain⟩ l (K dc (b0 B0))) Z=Z .next (lw e' l' σ):=by
 have step:∀{fl:Fl}{x x1 x2:X}{j:Nat}{js:List V},(∀Z,aZ (n+24) 11 (207,0) 0 (I j) x Z=Z fl x1)->(fl=.next\/fl=.cont)->(∀Z,cF (n+24) 11 (207,0) 0 js x1 Z=Z .next x2)->∀Z,cF (n+24) 11 (207,0) 0 (I j::js) x Z=Z .next x2:=λh hf h'=>by
  rcases hf with rfl|rfl
  ·exact cD h h'
  ·exact zD h h'
 have ln:∀{x:X},∀Z,cF (n+24) 11 (207,0) 0 [] x Z=Z .next x:=λ{x}=>dk (by kernel_rfl);refine IJ (Wf (n:=n) (j:=0) (script:=script) (lap:=lap) (form:=form) (pick:=pick) (fresh:=fresh) (a:=a) (b:=b) (t:=t) (plain:=plain) (l:=l) (nl rfl) Km PW (nl rfl) hn (nT hl (by decide))) λfl e1 l1 aj d1 H hf u1 XD hd=>?_;by_cases q:ns.length<=3
 ·rw [show(ns.length+2)/3=1 by exact f3 ‹_› ‹_›];exact iP e1 l1 _ (step H hf ln)
 ·rw [show(ns.length+2)/3=2 by exact XP ‹_› ‹_›];have rm:=u1.cJ (m:=3400) (k:=6800) (L:=1000000) (nl rfl) (nl rfl);have C9:ns.length<=100:=nT hl (by decide);obtain ⟨s',Zz,bG,DQ,DS,DT,a',b',t',vD⟩:=e1;obtain rfl:=XD;rcases hd with rfl|⟨p,q,rfl⟩|⟨p,q,fs,rfl⟩
  ·exact jI (Wg (n:=n) (j:=1) (script:=s') (lap:=bG) (form:=DQ) (pick:=DS) (fresh:=DT) (a:=a') (b:=b') (t:=t') (plain:=vD) (l:=l1) (by decide) Y2 u1.t rm hn C9) λKn e2 l2 aB d2 M v9 _=>iP e2 l2 _ (step H hf (step M v9 ln))
  ·exact jI (Wh (n:=n) (j:=1) (p:=p) (q:=q) (script:=s') (lap:=bG) (form:=DQ) (pick:=DS) (fresh:=DT) (a:=a') (b:=b') (t:=t') (plain:=vD) (l:=l1) (by decide) Km u1.t rm hn C9) λKn e2 l2 aB d2 M v9 _=>iP e2 l2 _ (step H hf (step M v9 ln))
  ·exact jI (Wi (n:=n) (j:=1) (p:=p) (q:=q) (fs:=fs) (script:=s') (lap:=bG) (form:=DQ) (pick:=DS) (fresh:=DT) (a:=a') (b:=b') (t:=t') (plain:=vD) (l:=l1) (by decide) Y3 u1.t rm hn C9) λKn e2 l2 aB d2 M v9 _=>iP e2 l2 _ (step H hf (step M v9 ln))
def SX (hz:zs.length<=63):∃σ,ae (n+25) (207,0) [.list (zs.map .int)] ⟨[],0⟩=sv (.bool true) σ:=by
 have sl:nX (.list (zs.map .int)) none (some 6)=some (.ml ((zs.take 6).map .int)):=by show((guard (aY (zs.map V.int).length&&true&&true) (((guard (decide (0<=(6))&&bQ 6) (some (min (6:Int).toNat (zs.map V.int).length)))).bind λh=>some (min (0:Int).toNat (zs.map V.int).length,h))).bind _).bind _=_;rw [dy (by rw [lM];exact nT ‹_› (nl rfl))];show some (LV.ml (((zs.map V.int).take (min 6 (zs.map V.int).length)).drop (min 0 (zs.map V.int).length)))=_;rw [Nat.zero_min,List.drop_zero,List.map_take];exact congrArg (λl=>some (LV.ml l)) (List.take_eq_take_iff.mpr (Nat.min_eq_left (Nat.min_le_right _ _)))
 have hc:=F9 (m:=n+24) (dd:=39) (i:=(207,0)) (k:=0) (vars:=Y1 (.list (zs.map .int))) (σ:=⟨[],0⟩) (by kernel_rfl) (it:=V.int) (sel:=λ_=>true) (f:=λz=>I (sh z)) (l:=zs.take 6) λz _=>ew [.l (XC z)];rw [(by rw [List.filter_eq_self.mpr λ_ _=>rfl,List.map_map];rfl:((zs.take 6).filter λ_=>true).map (λz=>I (sh z))=(((zs.take 6).map sh).map I))] at hc;have hl:((zs.take 6).map sh).length<=6:=by rw [lM,List.length_take];exact Nat.min_le_left _ _
 have ft:=gT (n:=((zs.take 6).map V.int).length) (by rw [lM,List.length_take];exact nT (Nat.min_le_left _ _) (nl rfl));generalize (zs.take 6).map sh=ns at hc hl;have ln:=rY (xs:=ns.map I) (by rw [lM];exact nT ‹_› (nl rfl));rw [lM] at ln;have tail:∀{ns:List Nat},0<ns.length->ns.length<=6->fy .FloorDiv (I (ns.length+2)) (I 3)=some (.val (I ((ns.length+2)/3)))/\blt .range [I ((ns.length+2)/3)]=some (.val (.fH 0 ((ns.length+2)/3:Nat)))/\bA (.fH 0 (((ns.length+2)/3:Nat):Int))=some ((List.range ((ns.length+2)/3)).map I):=λ{ns} h0 h6=>by
  have h3:(ns.length+2)/3<=1000:=nT (Nat.div_le_self _ _) (nT (Nat.add_le_add_right h6 2) (nl rfl));refine bx (e_ _ 3 (nl rfl) (nl rfl)) ?_ ?_
  ·show(guard (bQ (((ns.length+2)/3:Nat):Int)) _:Option LV)=_;rw [kT h3];rfl
  ·have:=zK (a:=0) (b:=(ns.length+2)/3) ((lZ _)) h3;refine this.trans (congrArg some (List.map_congr_left λj _=>?_));rw [Nat.zero_add]
 induction ns with
 |nil=>exact eU (JA (n:=n) (ns:=[2]) (nl rfl) (nl rfl) (script:=.val (.list (zs.map .int))) (lap:=.unset) (form:=.unset) (pick:=.unset) (fresh:=.unset) (a:=.unset) (b:=.unset) (t:=.unset) (plain:=.unset) (l:=Kl)) λe' l' σ h=>⟨σ,aa [.l sl,.z 1,.g ft,.c hc,.z 2,.o (G2 (n+22)),.o (Gb (n+22)),.z 5,.f h]⟩
 |cons m ns=>exact bc λuh=>eU (JA (n:=n) (ns:=m::ns) (Nat.succ_pos _) hl (script:=.val (.list (zs.map .int))) (lap:=.unset) (form:=.unset) (pick:=.unset) (fresh:=.unset) (a:=.unset) (b:=.unset) (t:=.unset) (plain:=.unset) (l:=Kl)) λe' l' σ h=>ef (tail (ns:=m::ns) (Nat.succ_pos _) hl) λt1 t2 t3=>uh (⟨σ,aa [.l sl,.z 1,.g ft,.c hc,.v ln,.b (neN (Nat.succ_ne_zero _:(m::ns).length≠0)),.o (G2 (n+22)),.o (Gb (n+22)),.v ln,.z 1,.l t1,.l t2,.s t3,.f h]⟩)
end
def Om:FJ:=λns h=>SX (n:=15) h
section
open PySem.Challenge
def Wj:namesResolve rw_or0006_01.row.prog=true:=by kernel_rfl
def Wl:noRoadLSs {strict:=!(importedModules rw_or0006_01.row.prog.main.body).all cThrough.contains,foot:=none,bare:=(["vars","dir","locals"]:List Str).filter (readsOut rw_or0006_01.row.prog rw_or0006_01.row.prog.main.body)} rw_or0006_01.row.prog.main.body=true:=by kernel_rfl
def Wm:namesMeet rw_or0006_01.row.prog rw_or0006_01.row.prog.main.body (λ_ n=>attrL n)=true:=by kernel_rfl
def SY:noRoadLSs {strict:=true,foot:=some rw_or0006_01.bound',writes:=rw_or0006_01.writes,may:=rw_or0006_01.may} rw_or0006_01.footing=true:=by kernel_rfl
def S0:rw_or0006_01.bound'.all (λn=>!builtinNamed n||rw_or0006_01.about==[n]||!rw_or0006_01.reads n)=true:=by kernel_rfl
def S1:namesMeet rw_or0006_01.prog rw_or0006_01.above (λ_ n=>!rw_or0006_01.own.contains n)=true:=by kernel_rfl
set_option maxHeartbeats 4000000 in
def PX:rw_or0006_01.wellSaid=true:=by
 unfold OpenLaw.wellSaid OpenRow.wellSaid OpenRow.partSaid looksOpen
 repeat' (with_reducible apply look_both)
 all_goals first|with_reducible exact Wj|with_reducible exact Wl|with_reducible exact Wm|with_reducible exact SY|with_reducible exact S0|with_reducible exact S1|kernel_rfl
end
end Mine
set_option maxHeartbeats 4000000 in
theorem PySem.Challenge.cw_or0006_01_holds : PySem.Challenge.rw_or0006_01.Holds :=
 holds_law Mine.PX fun XE => ⟨XE, ⟨[.list []], by kernel_rfl, by kernel_rfl⟩, Mine.O9 Mine.Om⟩
