import PyProof.Rows.All
import Wide.All
import OpenK.AllK
import KE.KRevSl
import PyProof.FactsAll.str_4
import PyProof.FactsAll.str_5
import PyProof.FactsAll.str_6
import PyProof.FactsAll.str_7
import PyProof.FactsAll.list_3
import PyProof.FactsAll.dict_3
import PyProof.CallStr
import PyProof.CallFns
import PyProof.WalkInts
import PyProof.IsiPairs
import PyProof.IsiHeapPairs
import PyProof.TupleCall
import PyProof.ListRange
import KE.KIdxIf
import PyProof.WalksMore
import PyProof.StrWalks
import PyProof.DictWalks
import PyProof.CompFree
import PyProof.CompMap
import PyProof.AssignAttr
import PyProof.Raises
import PyProof.StationsW
import PyProof.ForAny
import PyProof.TupleIter
import PyProof.CompUse
import PyProof.ZipIter
import PyProof.ExcClass3
import PyProof.RulesDelMore
import PyProof.DefCall
import PyProof.Cells
import PyProof.ExcInit
import PyProof.ExcBaseAll.Exception
import OpenK.KMore
import KE.KTypeName
import Lean
import PySem.Challenge.RW_pb0284_01
set_option Elab.async false
set_option linter.all false
set_option maxHeartbeats 0
set_option maxRecDepth 100000
namespace Mine
section
variable {A : Sort _} {B : Sort _} {C : Sort _} {D : Sort _} {E : Sort _} {F : Sort _} {H : Sort _} {I : Sort _} {J : Sort _} {K : Sort _} {L : Sort _} {M : Sort _} {N : Sort _} {O : Sort _} {G : Prop}
theorem x0_2 {P Q:Prop}(e:P/\Q)(k:P->Q->G):G:=by
 rcases e with ⟨p1,q⟩
 exact k p1 q
theorem x0_3 {P Q R:Prop}(e:P/\Q/\R)(k:P->Q->R->G):G:=by
 rcases e with ⟨p1,q,r⟩
 exact k p1 q r
theorem x0_4 {P Q R S:Prop}(e:P/\Q/\R/\S)(k:P->Q->R->S->G):G:=by
 rcases e with ⟨p1,q,r,s⟩
 exact k p1 q r s
theorem x0_5 {P Q R S T:Prop}(e:P/\Q/\R/\S/\T)(k:P->Q->R->S->T->G):G:=by
 rcases e with ⟨p1,q,r,s,t⟩
 exact k p1 q r s t
theorem x0_6 {P Q R S T U:Prop}(e:P/\Q/\R/\S/\T/\U)(k:P->Q->R->S->T->U->G):G:=by
 rcases e with ⟨p1,q,r,s,t,u⟩
 exact k p1 q r s t u
theorem x0_8 {P Q R S T U V W:Prop}(e:P/\Q/\R/\S/\T/\U/\V/\W)(k:P->Q->R->S->T->U->V->W->G):G:=by
 rcases e with ⟨p1,q,r,s,t,u,v,w⟩
 exact k p1 q r s t u v w
theorem x0_10 {P Q R S T U V W X Y:Prop}(e:P/\Q/\R/\S/\T/\U/\V/\W/\X/\Y)(k:P->Q->R->S->T->U->V->W->X->Y->G):G:=by
 rcases e with ⟨p1,q,r,s,t,u,v,w,x,y⟩
 exact k p1 q r s t u v w x y
theorem x1_1 {P:A->Prop}(e:∃ a, P a)(k:∀ a, P a->G):G:=by
 rcases e with ⟨a,p1⟩
 exact k a p1
theorem x1_2 {P Q:A->Prop}(e:∃ a, P a/\Q a)(k:∀ a, P a->Q a->G):G:=by
 rcases e with ⟨a,p1,q⟩
 exact k a p1 q
theorem x1_3 {P Q R:A->Prop}(e:∃ a, P a/\Q a/\R a)(k:∀ a, P a->Q a->R a->G):G:=by
 rcases e with ⟨a,p1,q,r⟩
 exact k a p1 q r
theorem x1_5 {P Q R S T:A->Prop}(e:∃ a, P a/\Q a/\R a/\S a/\T a)(k:∀ a, P a->Q a->R a->S a->T a->G):G:=by
 rcases e with ⟨a,p1,q,r,s,t⟩
 exact k a p1 q r s t
theorem x2_1 {P:A->B->Prop}(e:∃ a b, P a b)(k:∀ a b, P a b->G):G:=by
 rcases e with ⟨a,b,p1⟩
 exact k a b p1
theorem x2_2 {P Q:A->B->Prop}(e:∃ a b, P a b/\Q a b)(k:∀ a b, P a b->Q a b->G):G:=by
 rcases e with ⟨a,b,p1,q⟩
 exact k a b p1 q
theorem x2_3 {P Q R:A->B->Prop}(e:∃ a b, P a b/\Q a b/\R a b)(k:∀ a b, P a b->Q a b->R a b->G):G:=by
 rcases e with ⟨a,b,p1,q,r⟩
 exact k a b p1 q r
theorem x2_4 {P Q R S:A->B->Prop}(e:∃ a b, P a b/\Q a b/\R a b/\S a b)(k:∀ a b, P a b->Q a b->R a b->S a b->G):G:=by
 rcases e with ⟨a,b,p1,q,r,s⟩
 exact k a b p1 q r s
theorem x2_5 {P Q R S T:A->B->Prop}(e:∃ a b, P a b/\Q a b/\R a b/\S a b/\T a b)(k:∀ a b, P a b->Q a b->R a b->S a b->T a b->G):G:=by
 rcases e with ⟨a,b,p1,q,r,s,t⟩
 exact k a b p1 q r s t
theorem x2_6 {P Q R S T U:A->B->Prop}(e:∃ a b, P a b/\Q a b/\R a b/\S a b/\T a b/\U a b)(k:∀ a b, P a b->Q a b->R a b->S a b->T a b->U a b->G):G:=by
 rcases e with ⟨a,b,p1,q,r,s,t,u⟩
 exact k a b p1 q r s t u
theorem x2_7 {P Q R S T U V:A->B->Prop}(e:∃ a b, P a b/\Q a b/\R a b/\S a b/\T a b/\U a b/\V a b)(k:∀ a b, P a b->Q a b->R a b->S a b->T a b->U a b->V a b->G):G:=by
 rcases e with ⟨a,b,p1,q,r,s,t,u,v⟩
 exact k a b p1 q r s t u v
theorem x2_8 {P Q R S T U V W:A->B->Prop}(e:∃ a b, P a b/\Q a b/\R a b/\S a b/\T a b/\U a b/\V a b/\W a b)(k:∀ a b, P a b->Q a b->R a b->S a b->T a b->U a b->V a b->W a b->G):G:=by
 rcases e with ⟨a,b,p1,q,r,s,t,u,v,w⟩
 exact k a b p1 q r s t u v w
theorem x3_1 {P:A->B->C->Prop}(e:∃ a b c, P a b c)(k:∀ a b c, P a b c->G):G:=by
 rcases e with ⟨a,b,c,p1⟩
 exact k a b c p1
theorem x3_2 {P Q:A->B->C->Prop}(e:∃ a b c, P a b c/\Q a b c)(k:∀ a b c, P a b c->Q a b c->G):G:=by
 rcases e with ⟨a,b,c,p1,q⟩
 exact k a b c p1 q
theorem x3_3 {P Q R:A->B->C->Prop}(e:∃ a b c, P a b c/\Q a b c/\R a b c)(k:∀ a b c, P a b c->Q a b c->R a b c->G):G:=by
 rcases e with ⟨a,b,c,p1,q,r⟩
 exact k a b c p1 q r
theorem x3_4 {P Q R S:A->B->C->Prop}(e:∃ a b c, P a b c/\Q a b c/\R a b c/\S a b c)(k:∀ a b c, P a b c->Q a b c->R a b c->S a b c->G):G:=by
 rcases e with ⟨a,b,c,p1,q,r,s⟩
 exact k a b c p1 q r s
theorem x3_5 {P Q R S T:A->B->C->Prop}(e:∃ a b c, P a b c/\Q a b c/\R a b c/\S a b c/\T a b c)(k:∀ a b c, P a b c->Q a b c->R a b c->S a b c->T a b c->G):G:=by
 rcases e with ⟨a,b,c,p1,q,r,s,t⟩
 exact k a b c p1 q r s t
theorem x3_6 {P Q R S T U:A->B->C->Prop}(e:∃ a b c, P a b c/\Q a b c/\R a b c/\S a b c/\T a b c/\U a b c)(k:∀ a b c, P a b c->Q a b c->R a b c->S a b c->T a b c->U a b c->G):G:=by
 rcases e with ⟨a,b,c,p1,q,r,s,t,u⟩
 exact k a b c p1 q r s t u
theorem x3_10 {P Q R S T U V W X Y:A->B->C->Prop}(e:∃ a b c, P a b c/\Q a b c/\R a b c/\S a b c/\T a b c/\U a b c/\V a b c/\W a b c/\X a b c/\Y a b c)(k:∀ a b c, P a b c->Q a b c->R a b c->S a b c->T a b c->U a b c->V a b c->W a b c->X a b c->Y a b c->G):G:=by
 rcases e with ⟨a,b,c,p1,q,r,s,t,u,v,w,x,y⟩
 exact k a b c p1 q r s t u v w x y
theorem x4_1 {P:A->B->C->D->Prop}(e:∃ a b c d, P a b c d)(k:∀ a b c d, P a b c d->G):G:=by
 rcases e with ⟨a,b,c,d,p1⟩
 exact k a b c d p1
theorem x4_2 {P Q:A->B->C->D->Prop}(e:∃ a b c d, P a b c d/\Q a b c d)(k:∀ a b c d, P a b c d->Q a b c d->G):G:=by
 rcases e with ⟨a,b,c,d,p1,q⟩
 exact k a b c d p1 q
theorem x4_3 {P Q R:A->B->C->D->Prop}(e:∃ a b c d, P a b c d/\Q a b c d/\R a b c d)(k:∀ a b c d, P a b c d->Q a b c d->R a b c d->G):G:=by
 rcases e with ⟨a,b,c,d,p1,q,r⟩
 exact k a b c d p1 q r
theorem x4_4 {P Q R S:A->B->C->D->Prop}(e:∃ a b c d, P a b c d/\Q a b c d/\R a b c d/\S a b c d)(k:∀ a b c d, P a b c d->Q a b c d->R a b c d->S a b c d->G):G:=by
 rcases e with ⟨a,b,c,d,p1,q,r,s⟩
 exact k a b c d p1 q r s
theorem x4_5 {P Q R S T:A->B->C->D->Prop}(e:∃ a b c d, P a b c d/\Q a b c d/\R a b c d/\S a b c d/\T a b c d)(k:∀ a b c d, P a b c d->Q a b c d->R a b c d->S a b c d->T a b c d->G):G:=by
 rcases e with ⟨a,b,c,d,p1,q,r,s,t⟩
 exact k a b c d p1 q r s t
theorem x5_1 {P:A->B->C->D->E->Prop}(e:∃ a b c d f, P a b c d f)(k:∀ a b c d f, P a b c d f->G):G:=by
 rcases e with ⟨a,b,c,d,f,p1⟩
 exact k a b c d f p1
theorem x5_2 {P Q:A->B->C->D->E->Prop}(e:∃ a b c d f, P a b c d f/\Q a b c d f)(k:∀ a b c d f, P a b c d f->Q a b c d f->G):G:=by
 rcases e with ⟨a,b,c,d,f,p1,q⟩
 exact k a b c d f p1 q
theorem x5_3 {P Q R:A->B->C->D->E->Prop}(e:∃ a b c d f, P a b c d f/\Q a b c d f/\R a b c d f)(k:∀ a b c d f, P a b c d f->Q a b c d f->R a b c d f->G):G:=by
 rcases e with ⟨a,b,c,d,f,p1,q,r⟩
 exact k a b c d f p1 q r
theorem x5_5 {P Q R S T:A->B->C->D->E->Prop}(e:∃ a b c d f, P a b c d f/\Q a b c d f/\R a b c d f/\S a b c d f/\T a b c d f)(k:∀ a b c d f, P a b c d f->Q a b c d f->R a b c d f->S a b c d f->T a b c d f->G):G:=by
 rcases e with ⟨a,b,c,d,f,p1,q,r,s,t⟩
 exact k a b c d f p1 q r s t
theorem x5_6 {P Q R S T U:A->B->C->D->E->Prop}(e:∃ a b c d f, P a b c d f/\Q a b c d f/\R a b c d f/\S a b c d f/\T a b c d f/\U a b c d f)(k:∀ a b c d f, P a b c d f->Q a b c d f->R a b c d f->S a b c d f->T a b c d f->U a b c d f->G):G:=by
 rcases e with ⟨a,b,c,d,f,p1,q,r,s,t,u⟩
 exact k a b c d f p1 q r s t u
theorem x5_9 {P Q R S T U V W X:A->B->C->D->E->Prop}(e:∃ a b c d f, P a b c d f/\Q a b c d f/\R a b c d f/\S a b c d f/\T a b c d f/\U a b c d f/\V a b c d f/\W a b c d f/\X a b c d f)(k:∀ a b c d f, P a b c d f->Q a b c d f->R a b c d f->S a b c d f->T a b c d f->U a b c d f->V a b c d f->W a b c d f->X a b c d f->G):G:=by
 rcases e with ⟨a,b,c,d,f,p1,q,r,s,t,u,v,w,x⟩
 exact k a b c d f p1 q r s t u v w x
theorem x5_13 {P Q R S T U V W X Y Z P2 Q2:A->B->C->D->E->Prop}(e:∃ a b c d f, P a b c d f/\Q a b c d f/\R a b c d f/\S a b c d f/\T a b c d f/\U a b c d f/\V a b c d f/\W a b c d f/\X a b c d f/\Y a b c d f/\Z a b c d f/\P2 a b c d f/\Q2 a b c d f)(k:∀ a b c d f, P a b c d f->Q a b c d f->R a b c d f->S a b c d f->T a b c d f->U a b c d f->V a b c d f->W a b c d f->X a b c d f->Y a b c d f->Z a b c d f->P2 a b c d f->Q2 a b c d f->G):G:=by
 rcases e with ⟨a,b,c,d,f,p1,q,r,s,t,u,v,w,x,y,z,p2,q2⟩
 exact k a b c d f p1 q r s t u v w x y z p2 q2
theorem x5_14 {P Q R S T U V W X Y Z P2 Q2 R2:A->B->C->D->E->Prop}(e:∃ a b c d f, P a b c d f/\Q a b c d f/\R a b c d f/\S a b c d f/\T a b c d f/\U a b c d f/\V a b c d f/\W a b c d f/\X a b c d f/\Y a b c d f/\Z a b c d f/\P2 a b c d f/\Q2 a b c d f/\R2 a b c d f)(k:∀ a b c d f, P a b c d f->Q a b c d f->R a b c d f->S a b c d f->T a b c d f->U a b c d f->V a b c d f->W a b c d f->X a b c d f->Y a b c d f->Z a b c d f->P2 a b c d f->Q2 a b c d f->R2 a b c d f->G):G:=by
 rcases e with ⟨a,b,c,d,f,p1,q,r,s,t,u,v,w,x,y,z,p2,q2,r2⟩
 exact k a b c d f p1 q r s t u v w x y z p2 q2 r2
theorem x7_4 {P Q R S:A->B->C->D->E->F->H->Prop}(e:∃ a b c d f g h, P a b c d f g h/\Q a b c d f g h/\R a b c d f g h/\S a b c d f g h)(k:∀ a b c d f g h, P a b c d f g h->Q a b c d f g h->R a b c d f g h->S a b c d f g h->G):G:=by
 rcases e with ⟨a,b,c,d,f,g,h,p1,q,r,s⟩
 exact k a b c d f g h p1 q r s
theorem x10_11 {P Q R S T U V W X Y Z:A->B->C->D->E->F->H->I->J->K->Prop}(e:∃ a b c d f g h i j l, P a b c d f g h i j l/\Q a b c d f g h i j l/\R a b c d f g h i j l/\S a b c d f g h i j l/\T a b c d f g h i j l/\U a b c d f g h i j l/\V a b c d f g h i j l/\W a b c d f g h i j l/\X a b c d f g h i j l/\Y a b c d f g h i j l/\Z a b c d f g h i j l)(k:∀ a b c d f g h i j l, P a b c d f g h i j l->Q a b c d f g h i j l->R a b c d f g h i j l->S a b c d f g h i j l->T a b c d f g h i j l->U a b c d f g h i j l->V a b c d f g h i j l->W a b c d f g h i j l->X a b c d f g h i j l->Y a b c d f g h i j l->Z a b c d f g h i j l->G):G:=by
 rcases e with ⟨a,b,c,d,f,g,h,i,j,l,p1,q,r,s,t,u,v,w,x,y,z⟩
 exact k a b c d f g h i j l p1 q r s t u v w x y z
theorem x14_1 {P:A->B->C->D->E->F->H->I->J->K->L->M->N->O->Prop}(e:∃ a b c d f g h i j l m n o p, P a b c d f g h i j l m n o p)(k:∀ a b c d f g h i j l m n o p, P a b c d f g h i j l m n o p->G):G:=by
 rcases e with ⟨a,b,c,d,f,g,h,i,j,l,m,n,o,p,p1⟩
 exact k a b c d f g h i j l m n o p p1
theorem x14_2 {P Q:A->B->C->D->E->F->H->I->J->K->L->M->N->O->Prop}(e:∃ a b c d f g h i j l m n o p, P a b c d f g h i j l m n o p/\Q a b c d f g h i j l m n o p)(k:∀ a b c d f g h i j l m n o p, P a b c d f g h i j l m n o p->Q a b c d f g h i j l m n o p->G):G:=by
 rcases e with ⟨a,b,c,d,f,g,h,i,j,l,m,n,o,p,p1,q⟩
 exact k a b c d f g h i j l m n o p p1 q
end
@[elab_as_elim] theorem rwK {α : Sort _} {a b : α} {P : α -> Prop} (e : a = b) (h : P b) : P a := e ▸ h
@[elab_as_elim] theorem rwB {α : Sort _} {a b : α} {P : α -> Prop} (e : b = a) (h : P b) : P a := e ▸ h
section
set_option compiler.extract_closed false
open Lean
def zzn (k : String) (l : List Syntax) : Syntax := .node .none (`Lean.Parser.Tactic ++ k.toName) l.toArray
def zzu (l : List Syntax) : Syntax := .node .none `null l.toArray
def zzi (n : String) : Syntax := mkIdent n.toName
def zzq (l : List Syntax) : Syntax := zzn "tacticSeq" [zzn "tacticSeq1Indented" [zzu (l.intersperse (mkAtom ";"))]]
def zzp (l : List Syntax) : Syntax := zzn "paren" [mkAtom "(", zzq l, mkAtom ")"]
def zz1 (k a : String) (s : Syntax) : Syntax := zzn k [mkAtom a, zzq [s]]
def jv (n : String) : Syntax := zzn "apply" [mkAtom "apply", zzi n]
def zzx (n : String) : Syntax := zzn "exact" [mkAtom "exact", zzi n]
def zze (f : String) : Syntax := zzn "exact" [mkAtom "exact", .node .none `Lean.Parser.Term.app #[zzi f, zzu [zzi "rfl"]]]
def zzd (s : Syntax) : Syntax := .node .none `Lean.cdot #[.node .none `Lean.cdotTk #[mkAtom "·"], zzq [s]]
def zzf (l : List Syntax) : Syntax := zzn "first" [mkAtom "first", zzu (l.map fun a => .node .none `group #[mkAtom "|", zzq [a]])]
def zzw (s : Syntax) : Syntax := zz1 "withReducible" "with_reducible" s
def zzr (s : Syntax) : Syntax := zz1 "tacticRepeat_" "repeat" s
def zzs (o : List Syntax) (l : List String) : Syntax := zzn "simp" [mkAtom "simp", zzn "optConfig" [zzu []], zzu [], zzu o, zzu [mkAtom "[", zzu ((l.map fun n => zzn "simpLemma" [zzu [], zzu [], zzi n]).intersperse (mkAtom ",")), mkAtom "]"], zzu []]
def zz0 (k a : String) : Syntax := zzn k [mkAtom a, zzn "optConfig" [zzu []]]
def zza : Syntax := zzn "assumption" [mkAtom "assumption"]
def zzl : Syntax := zz1 "withUnfoldingAll" "with_unfolding_all" (zzn "tacticRfl" [mkAtom "rfl"])
def zzm : Syntax := zz0 "omega" "omega"
def zzO : Syntax := zzn "omega" [mkAtom "omega", zzn "optConfig" [zzu [zzn "configItem" [zzn "posConfigItem" [mkAtom "+", zzi "splitNatSub"]]]]]
def zzA (S : List (Char × Syntax)) (s : String) : Syntax := match s.splitOn ":" with
  | [n] => zzw (if n.front == '=' then zzx (n.drop 1).toString else jv n)
  | n :: b => if n.isEmpty then (S.lookup (String.join b).front).getD zzO else zzp (zzw (jv n) :: (String.join b).toList.map fun c => zzd ((S.lookup c).getD zzO))
  | [] => zza
def zzB (S : List (Char × Syntax)) (s : String) : Syntax := zzf ((s.splitOn " ").map (zzA S))
def zzS : List (Char × Syntax) := [('a', zzw zza), ('r', zzl), ('o', zzm)]
def zzH : Syntax := zzw (zzf [zza, zzx "aN", zzp [jv "ax", zzx "aN"], zzp [jv "ax", jv "ax", zzx "aN"], zzp [jv "dF", zza], zzp [jv "ax", zza], zzp [jv "ax", jv "ax", zza], zzp [jv "bR", zzd zza, zza],
    zzp [zzr (zzf [zza, zzx "aN", zzp [jv "dF", zzx "aN"], zzp [jv "bR", zzd (zzf [zza, zzm])], jv "ax", jv "dF"]), zzn "done" [mkAtom "done"]]])
def zzK : Syntax := zzf [zzB zzS ":a BU:o BV:o FD:a FF:a :r", zzp [jv "decide_eq_true", zzd zzm], zzp [jv "decide_eq_false", zzd zzm], zzp [zzs [mkAtom "only"] ["List.length_cons", "List.length_nil"], zzm], zzp [jv "sy", zzd zzm, zzd zzm], zzp [zzs [] ["small"], zzn "done" [mkAtom "done"]]]
def Hh (S : List (Char × Syntax)) (g : String × Nat × String) : Syntax :=
  let h : Syntax := .node .none `Lean.Parser.Term.hole #[mkAtom "_"]
  let p (f : Syntax) (l : List Syntax) : Syntax := .node .none `Lean.Parser.Term.app #[f, zzu l]
  zzp [zzn "guardTarget" [mkAtom "guard_target", .node .none `Lean.Parser.equal #[.node .none `Lean.Parser.equalR #[mkAtom "="]], p (.node .none `Lean.Parser.Term.explicit #[mkAtom "@", zzi "Eq"]) [h, p (zzi (if g.1 == "cond" then g.1 else "Mine." ++ g.1)) (List.replicate g.2.1 h), h]], zzB S g.2.2]
def zzG (S : List (Char × Syntax)) : Syntax := zzw (zzf ([
  ("ev", 5, "=Dn =Dr =G7 =FY =Dm C1:l Ds Dq AL:l Do BZ AJ G9 G0 FZ G8 Ga Hy G5 FW :a jQ yF Dp AK"),
  ("evs", 5, "=Dl uG"),
  ("R.bd", 2, "=CT =CS =zW =iu ve:k =vd =DK zX:r zZ:r A0 zY zh AW AY :f"),
  ("evT", 5, ":a =Co BD Cl Fm Hl Fk zb Fj:l Cn Cm Cp"),
  ("R.ok", 2, "=GJ"),
  ("bJ", 4, ":a Ge:ar Dz:a DA:ar =Fw =FC =Fx =Fy =wU =wT =Fz =FA CL:ha Ft:a zH:a tZ:hk zS:k x8:hk"),
  ("fJ", 6, ":a DB:ar AU:a AT DD:hk"),
  ("getAttr", 4, ":a Ai:hree"),
  ("jt", 4, ":a uo:hrrrr Ad:d Ab:hd Ac:h"),
  ("bS", 2, "aS =oZ =B5 =DL"),
  ("ex", 6, ":a Cc w6 xV Cf Cg Ce Fa Fb F9 Fc Bw wo wn Cb =Cd"),
  ("exs", 6, ":a =sr F8"),
  ("cond", 3, "c_t:k c_f:k"),
  ("fK", 4, ":a =Gp =Gj Gk:k Gn:k Gl:k Go:k Gi:a Gm:hhk"),
  ("getItem", 3, ":a Ae:he Db:e yA:e"),
  ("setAttr", 5, ":a CG:rr nv:hr"),
  ("setItem", 4, ":a zj:hk"),
  ("dp", 4, ":a Cv:a zi:ha"),
  ("bK", 4, ":a nC:ad sK:hak vn:a"),
  ("newList", 2, ":a mY:k"),
  ("bL", 2, "nS uN =pd =ph jy"),
  ("fH", 7, ":a fg:nr nJ:n"),
  ("cZ", 5, ":a eY"),
  ("fx", 8, ":a AQ"),
  ("gH", 4, ":a Gd Dy"),
  ("fZ", 5, ":a AR"),
  ("noExc", 1, ":a eZ:a")].map (Hh S) ++ [zzB S ":a A6:t D2:r D3:k"]))
def zzY : List (Char × Syntax) :=
  let k := zzK
  let h := zzH
  let S := zzS ++ [('e', zzf [zzw zza, zzl]), ('h', h), ('k', k), ('l', zzf [zzw zza, zzl, zzw (zzr (zzf [zza, zzx "bZ", zzp [jv "dC", zzd zzl]]))]), ('d', zz0 "decide" "decide"), ('f', zzp [jv "eD", zz1 "failIfSuccess" "fail_if_success" (zzx "GJ")]), ('n', zzw (zzf [zzp [jv "yl", zzd h, zzd h, zzd zzl], zzl]))]
  let S := ('t', zzB S ":a Gh:hh C2:hh Gg:h ug:h tC:hk :r zg:rk") :: S
  ('G', zzG S) :: S
def zzT (s : String) : Option Syntax := match s with
  | "I0" => zzY.lookup 'l'
  | "I3" => some zzH
  | "I4" => some zzK
  | "HY" => (zzY.lookup 'G').map zzr
  | "HZ" => some (zzr (zzB zzY ":a :G"))
  | "I2" => let S := zzY
    some (zzr (zzB (('R', zzr ((S.lookup 'G').getD zza)) :: S) ":a xz:RRR wm:R :G"))
  | "I1" => some (zzr (zzB zzY ":a Fq:rr =yo :G"))
  | _ => none
def zzV : Syntax := 
  let g x y := zzw (zz1 "repeat'" "repeat'" (zzf [zza, jv x, zzx y]))
  let b := zze "Nat.le_of_ble_eq_true"
  let d := zze "of_decide_eq_true"
  zzB [('a', zzw zza), ('q', zzf [zzw zza, b]), ('B', b), ('D', d), ('p', g "Nat.add_le_add" "Nat.le_refl"), ('i', g "Int.add_lt_add_of_lt_of_le" "Int.le_refl"), ('j', g "Int.add_le_add" "Int.le_refl"), ('z', zzp [zz0 "lia" "lia", zzn "done" [mkAtom "done"]])] ":a :B Nat.le_of_lt:a Nat.succ_le_of_lt:a Nat.lt_of_succ_le:a Nat.ne_of_lt:a Nat.ne_of_gt:a Nat.le_trans:pq Nat.lt_of_le_of_lt:pq Nat.lt_of_lt_of_le:aq Hr:aq Int.lt_of_lt_of_le:iD Int.le_trans:jD nea:aa neb:aa :z :_"
def zzh : Syntax := .node .none `Lean.Parser.Term.hole #[mkAtom "_"]
def zzy : Syntax := .node .none `Lean.Parser.Term.syntheticHole #[mkAtom "?", mkAtom "_"]
def zzc (e : Syntax) : Syntax := zz1 "tacticTry_" "try" (zzn "clear" [mkAtom "clear", zzu [e]])
def GA (e l : Syntax) : Syntax := zzn "rcases" [mkAtom "rcases", zzu [zzn "elimTarget" [zzu [], e]], zzu [mkAtom "with", l]]
def GB (p e : Syntax) : Syntax := zzn "obtain" [mkAtom "obtain", zzu [p], zzu [], zzu [mkAtom ":=", zzu [e]]]
def Hg (n : String) (e : Syntax) (s : List Syntax) : Syntax := zzn "refine" [mkAtom "refine", .node .none `Lean.Parser.Term.app #[zzi n, zzu [e, .node .none `Lean.Parser.Term.fun #[mkAtom "fun", .node .none `Lean.Parser.Term.basicFun #[zzu s, zzu [], mkAtom "=>", zzy]]]]]
/-- an item of a pattern: a plain name, or none -/
def zzN (l : Syntax) : Option Syntax :=
  let q := l[0][0].getSepArgs
  if q.size != 1 || !l[1].isNone then none else
  let a := q[0]!
  if a.getKind == `Lean.Parser.Tactic.rcasesPat.ignore then some (zzi "Z")
  else if a.getKind == `Lean.Parser.Tactic.rcasesPat.one && a[0].getId != `rfl then some a[0] else none
def Hi (x : String) (rest : Option (Syntax × Syntax)) (ls : List Syntax) : List Syntax × List Syntax :=
  ls.zipIdx.foldr (fun (l, i) (s, t) => match zzN l with
    | some b => (b :: s, t)
    | none =>
      let v := zzi (x ++ toString i)
      let q := l[0][0].getSepArgs
      let c := if q.size == 1 && l[1].isNone && q[0]!.getKind == `Lean.Parser.Tactic.rcasesPat.tuple then GB l[0] v else GA v l
      ([v], c :: (if s.isEmpty then t else zzn "intro" [mkAtom "intro", zzu s] :: t))) (match rest with
    | some (r, t) => ([r], [t])
    | none => ([], []))
def zzX (p e : Syntax) : Syntax :=
  let plain := GA e (zzn "rcasesPatLo" [p, zzu []])
  let q := p[0].getSepArgs
  if q.size != 1 || q[0]!.getKind != `Lean.Parser.Tactic.rcasesPat.tuple then plain else
  let ls := q[0]![1].getSepArgs.toList
  let n := ls.length
  let x := (if e.isIdent && e.getId.toString.startsWith "z_" then e.getId.toString else "z") ++ "_"
  let sh (l : Syntax) : Bool := e.isIdent && match zzN l with
    | some b => b.isIdent && b.getId == e.getId
    | none => false
  let r := zzi (x ++ "r")
  let o := zzi (x ++ "o")
  let as := (List.range (n - 1)).flatMap fun d => if d == 1 || (d > 0 && n > 9) then [] else
    let m := n - d
    let ms := ls.take m
    let rest := if d > 0 then some (r, GB (zzn "rcasesPatMed" [zzu [zzn "rcasesPat.tuple" [mkAtom "⟨", mkNullNode (q[0]![1].getArgs.extract (2 * m) (2 * n)), mkAtom "⟩"]]]) r) else none
    let (s, t) := Hi x rest ms
    let (pre, f, s, fin) := if ms.any sh then
        (if d == 0 && t.isEmpty && !(ms.dropLast.any sh) then ([], e, s.dropLast ++ [r], [zzc e, zzn "rename" [mkAtom "rename", zzh, mkAtom "=>", e]])
        else ([zzn "tacticHave__" [mkAtom "have", .node .none `Lean.Parser.Term.letConfig #[zzu []], .node .none `Lean.Parser.Term.letDecl #[.node .none `Lean.Parser.Term.letIdDecl #[.node .none `Lean.Parser.Term.letId #[o], zzu [], zzu [], mkAtom ":=", e]]], zzc e], o, s, [zzc o]))
      else ([], e, s, if e.isIdent then [zzc e] else [])
    (List.range (if d > 0 then m + 1 else m)).map fun i => zzp (pre ++ [Hg s!"x{i}_{m - i + (if d > 0 then 1 else 0)}" f s] ++ fin ++ t)
  zzf (as ++ [plain])
theorem Hr {a b c : Nat} (h : a < b) (k : b <= c) : a <= c := Nat.le_trans (Nat.le_of_lt h) k
theorem nea {a b : Nat} {G : Prop} (h : a = b) (k : a < b) : G := absurd h (Nat.ne_of_lt k)
theorem neb {a b : Nat} {G : Prop} (h : a = b) (k : b < a) : G := absurd h (Nat.ne_of_gt k)
theorem stp {a m n : Nat} (h : a + m = n) (hm : 0 < m) : a + 1 + (m - 1) = n := by rw [Nat.add_assoc, Nat.add_sub_of_le hm]; exact h
theorem GL {a m n i : Nat} (h : a + m = n + 1) (e : i + a < n) : 0 < m :=
  Nat.pos_of_ne_zero fun q => by
    subst q
    rw [Nat.add_zero] at h
    rw [h] at e
    exact Nat.not_lt_of_le (Nat.le_trans (Nat.le_succ n) (Nat.le_add_left _ i)) e
theorem exa {n k : Nat} (h : k <= n) : ∃ m, n = m + k := ⟨n - k, (Nat.sub_add_cancel h).symm⟩
theorem zP {a b n : Nat} (h1 : a <= n) (h2 : b <= n) (h3 : n - b <= a) : a + (b - (a - (n - b))) = n := by
  obtain ⟨d, rfl⟩ := exa h2
  rw [Nat.add_sub_cancel] at h3 ⊢
  obtain ⟨e, rfl⟩ := exa h3
  rw [Nat.add_sub_cancel, Nat.add_comm e d, Nat.add_assoc, Nat.add_sub_of_le]
  exact Nat.le_of_add_le_add_right (Nat.add_comm d b ▸ h1)
theorem Al {k : Int} {n : Nat} (h : 0 < n) : ∃ i : Nat, Int.fmod k n = (i : Int) /\ i < n :=
  have h1 := Int.fmod_nonneg_of_pos k (Int.natCast_pos.2 h)
  ⟨_, (Int.toNat_of_nonneg h1).symm, (Int.toNat_lt h1).2 (Int.fmod_lt_of_pos k (Int.natCast_pos.2 h))⟩
theorem Gq {l : Int} (h : 0 < l /\ l <= 14) : l ≠ 0 /\ l.natAbs < 1000000000 :=
  ⟨Int.ne_of_gt h.1, Int.ofNat_lt.1 (by rw [Int.natAbs_of_nonneg (Int.le_of_lt h.1)]; exact Int.lt_of_le_of_lt h.2 (by decide))⟩
theorem DP {a l : Int} (h : ¬ (a.natAbs : Int) > l) (hl : l <= 14) : -1000000000 <= a /\ a <= 1000000000 :=
  have q : (a.natAbs : Int) <= 1000000000 := Int.le_trans (Int.not_lt.1 h) (Int.le_trans hl (by decide))
  ⟨Int.neg_le_of_neg_le (Int.le_trans (Int.natAbs_neg a ▸ Int.le_natAbs) q), Int.le_trans Int.le_natAbs q⟩
theorem CN {i n : Nat} (h : 0 < n) : ∃ j : Nat, min (i : Int) ((n : Int) - 1) = (j : Int) /\ j < n := by
  obtain ⟨m, rfl⟩ := exa h
  rw [show ((m + 1 : Nat) : Int) - 1 = (m : Int) from Int.add_sub_cancel (m : Int) 1]
  rcases Nat.le_total i m with g | g
  · exact ⟨i, Int.min_eq_left (Int.ofNat_le.2 g), Nat.lt_succ_of_le g⟩
  · exact ⟨m, Int.min_eq_right (Int.ofNat_le.2 g), Nat.lt_succ_self m⟩
theorem ue {n : Nat} (h : 0 < n) : 0 <= (-1 : Int) + n /\ ((-1 : Int) + n).toNat = n - 1 := by
  obtain ⟨m, rfl⟩ := exa h
  rw [show (-1 : Int) + ((m + 1 : Nat) : Int) = m from (Int.add_comm _ _).trans (Int.add_sub_cancel (m : Int) 1)]
  exact ⟨Int.natCast_nonneg m, rfl⟩
end
set_option genSizeOf false
set_option tactic.hygienic false
set_option genSizeOf false
set_option tactic.hygienic false
def be:=@Option.some.inj
def on:=@List.length_map
def so:=@List.lookup_cons
def th:=@List.append_nil
def we:=@List.mem_of_getElem?
def HJ:=@List.getElem?_eq_getElem
def HK:=@List.getElem?_append_left
def HM:=@Nat.le_refl
def HN:=@Nat.le_trans
def HO:=@Nat.ne_of_lt
def HP:=@Int.le_trans
def HQ:=@List.getElem?_eq_none
def HR:=@List.drop_eq_nil_of_le
def HS:=@Nat.lt_succ_self
def HT:=@List.append_assoc
def HU:=@PySem.Heap.get?_push_size
def HV:=@PySem.Heap.get?_push_of_some
def HW:=@PySem.Heap.get?_none_of_le
def HX:=@PySem.Heap.get?_update_self
local macro_rules
  | `(tactic| obtain $p:rcasesPatMed := $e:term) => return Mine.zzX p e
local macro_rules
  | `(tactic| exact $i:ident) => match Mine.zzT i.getId.toString with
    | some s => return s
    | none => Lean.Macro.throwUnsupported
local macro_rules
  | `(tactic| omega) => return Mine.zzV
local macro_rules
  | `(tactic| rewrite [$r, $rs,*]) => `(tactic| (rewrite [$r]; rewrite [$rs,*]))
local macro_rules
  | `(tactic| rewrite [<- $e:term]) => `(tactic| first | refine Mine.rwB $e ?_ | refine Mine.rwB ($e ..) ?_ | rewrite +offsetCnstrs [<- $e])
  | `(tactic| rewrite [$e:term]) => `(tactic| first | refine Mine.rwK $e ?_ | refine Mine.rwK ($e ..) ?_ | rewrite +offsetCnstrs [$e:term])
open PySem
section
open W PyProof.Rows
noncomputable section
noncomputable def bd:List Stmt:=behindTheImports PySem.Challenge.pw_pb0284_01
end
noncomputable abbrev S (s:String):Str:=Str.ofString s
noncomputable def sA (i:Nat):Stmt:=bd.getD i default
noncomputable def fNm:Stmt->Str|.FunctionDef n ..=>n|.ClassDef n ..=>n|_=>default
noncomputable def fAr:Stmt->Arguments|.FunctionDef _ a ..=>a|_=>default
noncomputable def fBd:Stmt->List Stmt|.FunctionDef _ _ b ..=>b|.ClassDef _ _ _ b ..=>b|_=>[]
noncomputable def fSc:Stmt->Scope|.FunctionDef _ _ _ _ _ _ s ..=>s|_=>default
noncomputable def fLn:Stmt->Int|.FunctionDef _ _ _ _ _ _ _ _ _ p=>p.line|_=>0
noncomputable def isD:Stmt->Bool|.FunctionDef ..=>true|_=>false
noncomputable def mA (i k:Nat):Stmt:=((fBd (sA i)).filter isD).getD k default
noncomputable def fVs (st:Stmt):List Str:=(fSc st).names.filterMap fun x=>match x.2 with|.local=>some x.1|_=>none
noncomputable def rX:Str:=match sA 49 with|.Assign _ (.Constant (.str x) _ _) _=>x|_=>default
noncomputable def tu (l:List Value):Obj:={ cls:=.type "tuple",data:=.seq l.toArray }
noncomputable def fl (l:List Value):Obj:={ cls:=.none,data:=.fields l.toArray }
noncomputable def co (l:List Value):Obj:={ cls:=.type "code",data:=.fields l.toArray }
noncomputable def GC:List Str->Nat->List Value
 |[],_=>[]
 |s::r,t=>.str s t::GC r (t+1)
noncomputable abbrev fC:Str:=S "/claim/cut.py"
noncomputable def fP (st:Stmt) (q:Str):FuncData:={ name:=fNm st,qualname:=q,params:=fAr st,body:=.stmts (fBd st),scope:=fSc st,globals:=0,closure:=[],defaults:=.none,kwdefaults:=.none }
noncomputable def fF (st:Stmt) (q:Str) (m d:Value) (c:Addr):Obj:={ cls:=.type "function",data:=.func { name:=fNm st,qualname:=q,params:=fAr st,body:=.stmts (fBd st),scope:=fSc st,globals:=3,closure:=[],defaults:=d,kwdefaults:=.none,pyModule:=m,code:=.ref c } }
noncomputable def g7 (st:Stmt) (q:Str) (b t:Nat) (m d:Value):List Obj:=
 let vs:=fVs st
 let k:=vs.length
 [tu [],fl [],tu (GC vs (t+3)),tu [],{ cls:=.none,data:=.func (fP st q) },
  co [.str (fNm st) t,.str q (t+1),.str fC (t+2),.int (fLn st) 0,.int (fAr st).args.length 0,.int 0 0,.int 0 0,.int 3 0,.ref b,.bool true,.int 181 0,.ref (b+1),.none,.ref (b+2),.ref (b+3),.ref (b+4),.int (t+3+k:Nat) 0,.int (fLn st) 0,.str fC (t+4+k)],
  fF st q m d (b+5)]
noncomputable def g5 (st:Stmt) (q:Str) (b t:Nat) (m d:Value):List Obj:=
 [tu [],fl [],{ cls:=.none,data:=.func (fP st q) },
  co [.str (fNm st) t,.str q (t+1),.str fC (t+2),.int (fLn st) 0,.int (fAr st).args.length 0,.int 0 0,.int 0 0,.int 3 0,.ref b,.bool true,.int 181 0,.ref (b+1),.none,.none,.none,.ref (b+2),.int (t+3:Nat) 0,.int (fLn st) 0,.str fC (t+4)],
  fF st q m d (b+3)]
noncomputable def kr:BT->Nat->List Obj->BT
 |T,_,[]=>T
 |T,n,o::r=>kr (T.ins n o) (n+1) r
noncomputable def oN (vs:List Value) (o:Obj):Obj:=match o.data with
 |.fields xs=>{ o with data:=.fields (xs++vs.toArray) }
 |_=>o
noncomputable def lJ (P:Params) (n:Str) (t:Nat) (v:Value) (o:Obj):Obj:=match o.data with
 |.dict es k=>{ o with data:=.dict (es.push ⟨PyData.keyHash P n,.str n t,v⟩) (k+1) }
 |_=>o
noncomputable def Hm (j:Nat) (v:Value) (o:Obj):Obj:=match o.data with
 |.dict es k=>{ o with data:=.dict (es.modify j fun e=>{ e with val:=v }) k }
 |_=>o
noncomputable def dE (P:Params) (es:List (Value×Value)) (n:Nat):Obj:={ cls:=.type "dict",data:=.dict (es.map fun e=>⟨match e.1 with|.str s _=>PyData.keyHash P s|_=>0,e.1,e.2⟩).toArray n }
noncomputable def dN (P:Params) (es:List (Value×Value)) (n:Nat):Obj:={ cls:=.none,data:=.dict (es.map fun e=>⟨match e.1 with|.str s _=>PyData.keyHash P s|_=>0,e.1,e.2⟩).toArray n }
noncomputable def dT (P:Params) (T:BT) (n:Nat) (st:Stmt) (t:Nat) (m:Value) (kt:Nat):BT:=((kr T n (g7 st (fNm st) n t m .none)).set 12 (oN [.int (fLn st) 0,.int 0 0,.ref (n+5)])).set 3 (lJ P (fNm st) kt (.ref (n+6)))
noncomputable def dT5 (P:Params) (T:BT) (n:Nat) (st:Stmt) (t:Nat) (m:Value) (kt:Nat):BT:=((kr T n (g5 st (fNm st) n t m .none)).set 12 (oN [.int (fLn st) 0,.int 0 0,.ref (n+3)])).set 3 (lJ P (fNm st) kt (.ref (n+4)))
end
section
open W PyProof.Rows
noncomputable abbrev z (s:String) (t:Nat):Value:=.str (S s) t
noncomputable def bm (l:List Value):Obj:={ cls:=.type "builtin_function_or_method",data:=.fields l.toArray }
noncomputable def su (l:List Value):Obj:={ cls:=.type "super",data:=.fields l.toArray }
noncomputable def gs (l:List Value):Obj:={ cls:=.type "getset_descriptor",data:=.fields l.toArray }
noncomputable def fo (l:List (Option Value)):Obj:={ cls:=.type "frame",slots:=l.toArray }
noncomputable def kc (s:String) (b m:List Value) (n:Nat) (sub:List Value) (l:List (Option Value)):Obj:={ cls:=.type "type",data:=.cls { name:=S s,bases:=b,mro:=m,ns:=n,qualname:=S s,hasDict:=true,slotNames:=[],subclasses:=sub,abstract:=false,collection:=none,hasDel:=false },slots:=l.toArray }
noncomputable abbrev Stp:=Params->BT->BT
noncomputable def d7 (n i t:Nat) (m:Value) (k:Nat):Stp:=fun P T=>dT P T n (sA i) t m k
noncomputable def d5 (n i t:Nat) (m:Value) (k:Nat):Stp:=fun P T=>dT5 P T n (sA i) t m k
noncomputable def pg (v:Value):Stp:=fun _ T=>T.set 3 (Hm 0 v)
noncomputable def ag (s:String) (k:Nat) (v:Value):Stp:=fun P T=>T.set 3 (lJ P (S s) k v)
noncomputable def rs (P:Params) (T:BT) (l:List Stp):BT:=l.foldl (fun T f=>f P T) T
noncomputable abbrev m0:Value:=z "__main__" 164
noncomputable abbrev m1:Value:=z "ledgerspeak.errors" 194
noncomputable abbrev m2:Value:=z "ledgerspeak.items" 300
noncomputable abbrev m3:Value:=z "ledgerspeak.references" 522
noncomputable abbrev m4:Value:=z "ledgerspeak.columns" 669
noncomputable abbrev m5:Value:=z "ledgerspeak.decimals" 711
noncomputable abbrev m6:Value:=z "ledgerspeak.reader" 786
noncomputable abbrev m7:Value:=z "ledgerspeak.tokens" 1012
noncomputable abbrev m8:Value:=z "law_pb0284_01" 1266
noncomputable abbrev bf (s:String):String×Value:=(s,.builtin s)
noncomputable abbrev bt (s:String):String×Value:=(s,.type s)
noncomputable def qL:List (String×Value):=[("__name__",z "builtins" 160),("__doc__",.builtin "builtins.__doc__:str#opaque"),("__package__",.builtin "builtins.__package__:str#opaque"),("__loader__",.builtin "builtins.__loader__:shared#opaque"),("__spec__",.builtin "builtins.__spec__#opaque"),bf "__build_class__",bf "__import__",bf "abs",bf "all",bf "any",bf "ascii",bf "bin",bf "breakpoint",bf "callable",bf "chr",bf "compile",bf "delattr",bf "dir",bf "divmod",bf "eval",bf "exec",bf "format",bf "getattr",bf "globals",bf "hasattr",bf "hash",bf "hex",bf "id",bf "input",bf "isinstance",bf "issubclass",bf "iter",bf "aiter",bf "len",bf "locals",bf "max",bf "min",bf "next",bf "anext",bf "oct",bf "ord",bf "pow",bf "print",bf "repr",bf "round",bf "setattr",bf "sorted",bf "sum",bf "vars",("None",.none),("Ellipsis",.ellipsis),("NotImplemented",.notImplemented),("False",.bool false),("True",.bool true),bt "bool",bt "memoryview",bt "bytearray",bt "bytes",bt "classmethod",bt "complex",bt "dict",bt "enumerate",bt "filter",bt "float",bt "frozenset",bt "property",bt "int",bt "list",bt "map",bt "object",bt "range",bt "reversed",bt "set",bt "slice",bt "staticmethod",bt "str",bt "super",bt "tuple",bt "type",bt "zip",("__debug__",.bool true),bt "BaseException",bt "BaseExceptionGroup",bt "Exception",bt "GeneratorExit",bt "KeyboardInterrupt",bt "SystemExit",bt "ArithmeticError",bt "AssertionError",bt "AttributeError",bt "BufferError",bt "EOFError",bt "ImportError",bt "LookupError",bt "MemoryError",bt "NameError",bt "OSError",bt "ReferenceError",bt "RuntimeError",bt "StopAsyncIteration",bt "StopIteration",bt "SyntaxError",bt "SystemError",bt "TypeError",bt "ValueError",bt "Warning",bt "FloatingPointError",bt "OverflowError",bt "ZeroDivisionError",bt "BytesWarning",bt "DeprecationWarning",bt "EncodingWarning",bt "FutureWarning",bt "ImportWarning",bt "PendingDeprecationWarning",bt "ResourceWarning",bt "RuntimeWarning",bt "SyntaxWarning",bt "UnicodeWarning",bt "UserWarning",bt "BlockingIOError",bt "ChildProcessError",bt "ConnectionError",bt "FileExistsError",bt "FileNotFoundError",bt "InterruptedError",bt "IsADirectoryError",bt "NotADirectoryError",bt "PermissionError",bt "ProcessLookupError",bt "TimeoutError",bt "IndentationError",bt "_IncompleteInputError",bt "IndexError",bt "KeyError",bt "ModuleNotFoundError",bt "NotImplementedError",bt "PythonFinalizationError",bt "RecursionError",bt "UnboundLocalError",bt "UnicodeError",bt "BrokenPipeError",bt "ConnectionAbortedError",bt "ConnectionRefusedError",bt "ConnectionResetError",bt "TabError",bt "UnicodeDecodeError",bt "UnicodeEncodeError",bt "UnicodeTranslateError",bt "ExceptionGroup",("EnvironmentError",.type "OSError"),("IOError",.type "OSError"),bf "open",("quit",.builtin "builtins.quit#opaque"),("exit",.builtin "builtins.exit#opaque"),("copyright",.builtin "builtins.copyright#opaque"),("credits",.builtin "builtins.credits#opaque"),("license",.builtin "builtins.license#opaque"),("help",.builtin "builtins.help#opaque")]
noncomputable def qB (P:Params):Obj:=dE P (qL.zipIdx.map fun e=>(z e.1.1 (e.2+1),e.1.2)) 159
noncomputable def N0:List Obj:=[tu [],fl [],co [z "<module>" 182,z "<module>" 183,z "/claim/cut.py" 184,.int 1 0,.int 0 0,.int 0 0,.int 0 0,.int 0 0,.ref 11,.bool false,.int 181 0,.ref 12,.none,.none,.none,.none,.int 185 0,.int 1 0,z "/claim/cut.py" 186],fo [some (.ref 13),some (.ref 3),some (.ref 3),none,some (z "__main__" 164),none,some (.ref 0)]]
noncomputable def T0 (P:Params):BT:=kr (kr .nil 0 [qB P,boot_o_1 P,boot_o_2 P,boot_o_3 P,boot_o_4 P,boot_o_5 P,boot_o_6 P,boot_o_7 P,boot_o_8 P,boot_o_9 P,boot_o_10 P]) 11 N0
noncomputable def T12 (P:Params):BT:=rs P (T0 P) [d7 15 0 187 m0 193,
 pg m1,
 fun P T=>(kr T 22 ([tu [.type "Exception"],bm [.builtin "type.__prepare__",.type "type"],dE P [(z "__module__" 203,m1),(z "__qualname__" 205,z "LedgerError" 204),(z "__firstlineno__" 207,.int 5 206),(z "__init__" 218,.ref 37),(z "told" 225,.ref 44),(z "__static_attributes__" 228,.ref 45)] 6,tu [],fl [.int 7 0,.int 4 0,.ref 36,.int 12 0,.int 4 0,.ref 43],co [z "LedgerError" 198,z "LedgerError" 199,z "/claim/cut.py" 200,.int 5 0,.int 0 0,.int 0 0,.int 0 0,.int 0 0,.ref 25,.bool false,.int 181 0,.ref 26,.none,.none,.none,.none,.int 201 0,.int 5 0,z "/claim/cut.py" 202],fo [some (.ref 27),some (.ref 3),some (.ref 24),none,some m1,none,some (.ref 0)],tu [.int 0 208,.int 0 209],tu [.ref 29]]++g7 (mA 2 0) (S "LedgerError.__init__") 31 210 m1 (.ref 30)++g7 (mA 2 1) (S "LedgerError.told") 38 219 m1 (.none)++[tu [z "at" 226,z "what" 227],dE P [(z "__module__" 203,m1),(z "__firstlineno__" 207,.int 5 206),(z "__init__" 218,.ref 37),(z "told" 225,.ref 44),(z "__static_attributes__" 228,.ref 45),(z "__weakref__" 230,.ref 48),(z "__doc__" 231,.none)] 3,kc "LedgerError" [.type "Exception"] [.ref 47,.type "Exception",.type "BaseException",.type "object"] 46 [] [some (.ref 22),none,some (z "LedgerError" 196),some (z "LedgerError" 204),some (.builtin "Exception.__new__"),some (.bool true)],gs [z "__weakref__" 229,.ref 47,.builtin "ExceptionGroup.__weakref__",.none],su [.ref 47,.ref 47,.ref 47],bm [.builtin "object.__init_subclass__",.ref 47]])) |>.set 2 (fun _=>dN P [(z "type.__subclasses__.Exception.0" 232,.int 47 0),(z "type.__subclasses__.Exception.n" 233,.int 1 0)] 2) |>.set 12 (oN [.int 5 0,.int 0 0,.ref 27]) |>.set 3 (lJ P (S "LedgerError") 235 (.ref 47)),
 fun P T=>(kr T 51 ([tu [.ref 47],bm [.builtin "type.__prepare__",.type "type"],dE P [(z "__module__" 243,m1),(z "__qualname__" 245,z "TokenFault" 244),(z "__firstlineno__" 247,.int 14 246),(z "__static_attributes__" 248,.ref 58)] 4,tu [],fl [],co [z "TokenFault" 238,z "TokenFault" 239,z "/claim/cut.py" 240,.int 14 0,.int 0 0,.int 0 0,.int 0 0,.int 0 0,.ref 54,.bool false,.int 181 0,.ref 55,.none,.none,.none,.none,.int 241 0,.int 14 0,z "/claim/cut.py" 242],fo [some (.ref 56),some (.ref 3),some (.ref 53),none,some m1,none,some (.ref 0)],tu [],dE P [(z "__module__" 243,m1),(z "__firstlineno__" 247,.int 14 246),(z "__static_attributes__" 248,.ref 58),(z "__doc__" 249,.none)] 2,kc "TokenFault" [.ref 47] [.ref 60,.ref 47,.type "Exception",.type "BaseException",.type "object"] 59 [] [some (.ref 51),none,some (z "TokenFault" 236),some (z "TokenFault" 244),some (.builtin "Exception.__new__"),some (.bool true)],su [.ref 60,.ref 60,.ref 60],bm [.builtin "object.__init_subclass__",.ref 60]])) |>.set 47 (fun _=>kc "LedgerError" [.type "Exception"] [.ref 47,.type "Exception",.type "BaseException",.type "object"] 46 [.ref 60] [some (.ref 22),none,some (z "LedgerError" 196),some (z "LedgerError" 204),some (.builtin "Exception.__new__"),some (.bool true)]) |>.set 12 (oN [.int 14 0,.int 0 0,.ref 56]) |>.set 3 (lJ P (S "TokenFault") 251 (.ref 60)),
 fun P T=>(kr T 63 ([tu [.ref 47],bm [.builtin "type.__prepare__",.type "type"],dE P [(z "__module__" 259,m1),(z "__qualname__" 261,z "GrammarFault" 260),(z "__firstlineno__" 263,.int 16 262),(z "__static_attributes__" 264,.ref 70)] 4,tu [],fl [],co [z "GrammarFault" 254,z "GrammarFault" 255,z "/claim/cut.py" 256,.int 16 0,.int 0 0,.int 0 0,.int 0 0,.int 0 0,.ref 66,.bool false,.int 181 0,.ref 67,.none,.none,.none,.none,.int 257 0,.int 16 0,z "/claim/cut.py" 258],fo [some (.ref 68),some (.ref 3),some (.ref 65),none,some m1,none,some (.ref 0)],tu [],dE P [(z "__module__" 259,m1),(z "__firstlineno__" 263,.int 16 262),(z "__static_attributes__" 264,.ref 70),(z "__doc__" 265,.none)] 2,kc "GrammarFault" [.ref 47] [.ref 72,.ref 47,.type "Exception",.type "BaseException",.type "object"] 71 [] [some (.ref 63),none,some (z "GrammarFault" 252),some (z "GrammarFault" 260),some (.builtin "Exception.__new__"),some (.bool true)],su [.ref 72,.ref 72,.ref 72],bm [.builtin "object.__init_subclass__",.ref 72]])) |>.set 47 (fun _=>kc "LedgerError" [.type "Exception"] [.ref 47,.type "Exception",.type "BaseException",.type "object"] 46 [.ref 60,.ref 72] [some (.ref 22),none,some (z "LedgerError" 196),some (z "LedgerError" 204),some (.builtin "Exception.__new__"),some (.bool true)]) |>.set 12 (oN [.int 16 0,.int 0 0,.ref 68]) |>.set 3 (lJ P (S "GrammarFault") 267 (.ref 72)),
 fun P T=>(kr T 75 ([tu [.ref 47],bm [.builtin "type.__prepare__",.type "type"],dE P [(z "__module__" 275,m1),(z "__qualname__" 277,z "CheckFault" 276),(z "__firstlineno__" 279,.int 18 278),(z "__static_attributes__" 280,.ref 82)] 4,tu [],fl [],co [z "CheckFault" 270,z "CheckFault" 271,z "/claim/cut.py" 272,.int 18 0,.int 0 0,.int 0 0,.int 0 0,.int 0 0,.ref 78,.bool false,.int 181 0,.ref 79,.none,.none,.none,.none,.int 273 0,.int 18 0,z "/claim/cut.py" 274],fo [some (.ref 80),some (.ref 3),some (.ref 77),none,some m1,none,some (.ref 0)],tu [],dE P [(z "__module__" 275,m1),(z "__firstlineno__" 279,.int 18 278),(z "__static_attributes__" 280,.ref 82),(z "__doc__" 281,.none)] 2,kc "CheckFault" [.ref 47] [.ref 84,.ref 47,.type "Exception",.type "BaseException",.type "object"] 83 [] [some (.ref 75),none,some (z "CheckFault" 268),some (z "CheckFault" 276),some (.builtin "Exception.__new__"),some (.bool true)],su [.ref 84,.ref 84,.ref 84],bm [.builtin "object.__init_subclass__",.ref 84]])) |>.set 47 (fun _=>kc "LedgerError" [.type "Exception"] [.ref 47,.type "Exception",.type "BaseException",.type "object"] 46 [.ref 60,.ref 72,.ref 84] [some (.ref 22),none,some (z "LedgerError" 196),some (z "LedgerError" 204),some (.builtin "Exception.__new__"),some (.bool true)]) |>.set 12 (oN [.int 18 0,.int 0 0,.ref 80]) |>.set 3 (lJ P (S "CheckFault") 283 (.ref 84)),
 fun P T=>(kr T 87 ([tu [.ref 47],bm [.builtin "type.__prepare__",.type "type"],dE P [(z "__module__" 291,m1),(z "__qualname__" 293,z "RunFault" 292),(z "__firstlineno__" 295,.int 20 294),(z "__static_attributes__" 296,.ref 94)] 4,tu [],fl [],co [z "RunFault" 286,z "RunFault" 287,z "/claim/cut.py" 288,.int 20 0,.int 0 0,.int 0 0,.int 0 0,.int 0 0,.ref 90,.bool false,.int 181 0,.ref 91,.none,.none,.none,.none,.int 289 0,.int 20 0,z "/claim/cut.py" 290],fo [some (.ref 92),some (.ref 3),some (.ref 89),none,some m1,none,some (.ref 0)],tu [],dE P [(z "__module__" 291,m1),(z "__firstlineno__" 295,.int 20 294),(z "__static_attributes__" 296,.ref 94),(z "__doc__" 297,.none)] 2,kc "RunFault" [.ref 47] [.ref 96,.ref 47,.type "Exception",.type "BaseException",.type "object"] 95 [] [some (.ref 87),none,some (z "RunFault" 284),some (z "RunFault" 292),some (.builtin "Exception.__new__"),some (.bool true)],su [.ref 96,.ref 96,.ref 96],bm [.builtin "object.__init_subclass__",.ref 96]])) |>.set 47 (fun _=>kc "LedgerError" [.type "Exception"] [.ref 47,.type "Exception",.type "BaseException",.type "object"] 46 [.ref 60,.ref 72,.ref 84,.ref 96] [some (.ref 22),none,some (z "LedgerError" 196),some (z "LedgerError" 204),some (.builtin "Exception.__new__"),some (.bool true)]) |>.set 12 (oN [.int 20 0,.int 0 0,.ref 92]) |>.set 3 (lJ P (S "RunFault") 299 (.ref 96)),
 pg m2,
 ag "FILLER" 303 (z "FILLER" 302),
 fun P T=>(kr T 99 ([tu [],bm [.builtin "type.__prepare__",.type "type"],dE P [(z "__module__" 311,m2),(z "__qualname__" 313,z "Occurs" 312),(z "__firstlineno__" 315,.int 24 314),(z "__init__" 327,.ref 115),(z "told" 334,.ref 122),(z "__static_attributes__" 340,.ref 123)] 6,tu [],fl [.int 26 0,.int 4 0,.ref 114,.int 33 0,.int 4 0,.ref 121],co [z "Occurs" 306,z "Occurs" 307,z "/claim/cut.py" 308,.int 24 0,.int 0 0,.int 0 0,.int 0 0,.int 0 0,.ref 102,.bool false,.int 181 0,.ref 103,.none,.none,.none,.none,.int 309 0,.int 24 0,z "/claim/cut.py" 310],fo [some (.ref 104),some (.ref 3),some (.ref 101),none,some m2,none,some (.ref 0)],tu [],tu [],tu [.none,.ref 106,.ref 107]]++g7 (mA 9 0) (S "Occurs.__init__") 109 316 m2 (.ref 108)++g7 (mA 9 1) (S "Occurs.told") 116 328 m2 (.none)++[tu [z "depending" 335,z "high" 336,z "indexes" 337,z "keys" 338,z "low" 339],dE P [(z "__module__" 311,m2),(z "__firstlineno__" 315,.int 24 314),(z "__init__" 327,.ref 115),(z "told" 334,.ref 122),(z "__static_attributes__" 340,.ref 123),(z "__dict__" 342,.ref 126),(z "__weakref__" 344,.ref 127),(z "__doc__" 345,.none)] 4,kc "Occurs" [.type "object"] [.ref 125,.type "object"] 124 [] [none,none,some (z "Occurs" 304),some (z "Occurs" 312),some (.builtin "object.__new__"),some (.bool true)],gs [z "__dict__" 341,.ref 125,.builtin "function.__dict__",.builtin "function.__dict__#set"],gs [z "__weakref__" 343,.ref 125,.builtin "ExceptionGroup.__weakref__",.none],su [.ref 125,.ref 125,.ref 125],bm [.builtin "object.__init_subclass__",.ref 125]])) |>.set 12 (oN [.int 24 0,.int 0 0,.ref 104]) |>.set 3 (lJ P (S "Occurs") 347 (.ref 125)),
 fun P T=>(kr T 130 ([tu [],bm [.builtin "type.__prepare__",.type "type"],dE P [(z "__module__" 355,m2),(z "__qualname__" 357,z "Item" 356),(z "__firstlineno__" 359,.int 35 358),(z "__init__" 368,.ref 143),(z "add" 376,.ref 150),(z "count" 383,.ref 157),(z "clauses" 392,.ref 164),(z "told" 398,.ref 169),(z "__static_attributes__" 418,.ref 170)] 9,tu [],fl [.int 37 0,.int 4 0,.ref 142,.int 58 0,.int 4 0,.ref 149,.int 62 0,.int 4 0,.ref 156,.int 65 0,.int 4 0,.ref 163,.int 70 0,.int 4 0,.ref 168],co [z "Item" 350,z "Item" 351,z "/claim/cut.py" 352,.int 35 0,.int 0 0,.int 0 0,.int 0 0,.int 0 0,.ref 133,.bool false,.int 181 0,.ref 134,.none,.none,.none,.none,.int 353 0,.int 35 0,z "/claim/cut.py" 354],fo [some (.ref 135),some (.ref 3),some (.ref 132),none,some m2,none,some (.ref 0)]]++g7 (mA 10 0) (S "Item.__init__") 137 360 m2 (.none)++g7 (mA 10 1) (S "Item.add") 144 369 m2 (.none)++g7 (mA 10 2) (S "Item.count") 151 377 m2 (.none)++g7 (mA 10 3) (S "Item.clauses") 158 384 m2 (.none)++g5 (mA 10 4) (S "Item.told") 165 393 m2 (.none)++[tu [z "base" 399,z "conditions" 400,z "is_blank_zero" 401,z "is_justified" 402,z "is_separate" 403,z "kids" 404,z "level" 405,z "name" 406,z "occurs" 407,z "offset" 408,z "parent" 409,z "picture_text" 410,z "redefines" 411,z "renames" 412,z "shape" 413,z "sign" 414,z "size" 415,z "usage" 416,z "value" 417],dE P [(z "__module__" 355,m2),(z "__firstlineno__" 359,.int 35 358),(z "__init__" 368,.ref 143),(z "add" 376,.ref 150),(z "count" 383,.ref 157),(z "clauses" 392,.ref 164),(z "told" 398,.ref 169),(z "__static_attributes__" 418,.ref 170),(z "__dict__" 420,.ref 173),(z "__weakref__" 422,.ref 174),(z "__doc__" 423,.none)] 4,kc "Item" [.type "object"] [.ref 172,.type "object"] 171 [] [none,none,some (z "Item" 348),some (z "Item" 356),some (.builtin "object.__new__"),some (.bool true)],gs [z "__dict__" 419,.ref 172,.builtin "function.__dict__",.builtin "function.__dict__#set"],gs [z "__weakref__" 421,.ref 172,.builtin "ExceptionGroup.__weakref__",.none],su [.ref 172,.ref 172,.ref 172],bm [.builtin "object.__init_subclass__",.ref 172]])) |>.set 12 (oN [.int 35 0,.int 0 0,.ref 135]) |>.set 3 (lJ P (S "Item") 425 (.ref 172)),
 fun P T=>(kr T 177 ([tu [],bm [.builtin "type.__prepare__",.type "type"],dE P [(z "__module__" 433,m2),(z "__qualname__" 435,z "Data" 434),(z "__firstlineno__" 437,.int 73 436),(z "__init__" 444,.ref 190),(z "told" 450,.ref 195),(z "__static_attributes__" 457,.ref 196)] 6,tu [],fl [.int 75 0,.int 4 0,.ref 189,.int 83 0,.int 4 0,.ref 194],co [z "Data" 428,z "Data" 429,z "/claim/cut.py" 430,.int 73 0,.int 0 0,.int 0 0,.int 0 0,.int 0 0,.ref 180,.bool false,.int 181 0,.ref 181,.none,.none,.none,.none,.int 431 0,.int 73 0,z "/claim/cut.py" 432],fo [some (.ref 182),some (.ref 3),some (.ref 179),none,some m2,none,some (.ref 0)]]++g7 (mA 11 0) (S "Data.__init__") 184 438 m2 (.none)++g5 (mA 11 1) (S "Data.told") 191 445 m2 (.none)++[tu [z "files" 451,z "indexes" 452,z "linkage" 453,z "size" 454,z "sorts" 455,z "working" 456],dE P [(z "__module__" 433,m2),(z "__firstlineno__" 437,.int 73 436),(z "__init__" 444,.ref 190),(z "told" 450,.ref 195),(z "__static_attributes__" 457,.ref 196),(z "__dict__" 459,.ref 199),(z "__weakref__" 461,.ref 200),(z "__doc__" 462,.none)] 4,kc "Data" [.type "object"] [.ref 198,.type "object"] 197 [] [none,none,some (z "Data" 426),some (z "Data" 434),some (.builtin "object.__new__"),some (.bool true)],gs [z "__dict__" 458,.ref 198,.builtin "function.__dict__",.builtin "function.__dict__#set"],gs [z "__weakref__" 460,.ref 198,.builtin "ExceptionGroup.__weakref__",.none],su [.ref 198,.ref 198,.ref 198],bm [.builtin "object.__init_subclass__",.ref 198]])) |>.set 12 (oN [.int 73 0,.int 0 0,.ref 182]) |>.set 3 (lJ P (S "Data") 464 (.ref 198))]
noncomputable def T21 (P:Params):BT:=rs P (T12 P) [d7 203 12 465 m2 473,
 d7 210 13 474 m2 483,
 d7 217 14 484 m2 492,
 d7 224 15 493 m2 501,
 d7 231 16 502 m2 509,
 d5 238 17 510 m2 515,
 d5 243 18 516 m2 521,
 pg m3,
 ag "MOST_SUBSCRIPTS" 525 (.int 7 524)]
noncomputable def T22 (P:Params):BT:=rs P (T21 P) [fun P T=>(kr T 248 ([dE P [(z "ZERO" 526,z "ZERO" 527),(z "ZEROS" 528,z "ZERO" 529),(z "ZEROES" 530,z "ZERO" 531),(z "SPACE" 532,z "SPACE" 533),(z "SPACES" 534,z "SPACE" 535),(z "HIGH-VALUE" 536,z "HIGH" 537),(z "HIGH-VALUES" 538,z "HIGH" 539),(z "LOW-VALUE" 540,z "LOW" 541),(z "LOW-VALUES" 542,z "LOW" 543),(z "QUOTE" 544,z "QUOTE" 545),(z "QUOTES" 546,z "QUOTE" 547)] 11])) |>.set 3 (lJ P (S "FIGURE_NAMES") 559 (.ref 248))]
noncomputable def T63 (P:Params):BT:=rs P (T22 P) [d7 249 22 560 m3 568,
 d7 256 23 569 m3 577,
 d7 263 24 578 m3 587,
 d7 270 25 588 m3 599,
 d7 277 26 600 m3 607,
 d7 284 27 608 m3 614,
 d7 291 28 615 m3 623,
 d5 298 29 624 m3 629,
 d7 303 30 630 m3 639,
 d7 310 31 640 m3 647,
 d5 317 32 648 m3 653,
 d7 322 33 654 m3 668,
 pg m4,
 ag "QUOTES" 672 (z "\"'" 671),
 fun P T=>(kr T 329 ([tu [],bm [.builtin "type.__prepare__",.type "type"],dE P [(z "__module__" 680,m4),(z "__qualname__" 682,z "Line" 681),(z "__firstlineno__" 684,.int 220 683),(z "__init__" 693,.ref 342),(z "told" 700,.ref 349),(z "__static_attributes__" 703,.ref 350)] 6,tu [],fl [.int 222 0,.int 4 0,.ref 341,.int 226 0,.int 4 0,.ref 348],co [z "Line" 675,z "Line" 676,z "/claim/cut.py" 677,.int 220 0,.int 0 0,.int 0 0,.int 0 0,.int 0 0,.ref 332,.bool false,.int 181 0,.ref 333,.none,.none,.none,.none,.int 678 0,.int 220 0,z "/claim/cut.py" 679],fo [some (.ref 334),some (.ref 3),some (.ref 331),none,some m4,none,some (.ref 0)]]++g7 (mA 36 0) (S "Line.__init__") 336 685 m4 (.none)++g7 (mA 36 1) (S "Line.told") 343 694 m4 (.none)++[tu [z "places" 701,z "text" 702],dE P [(z "__module__" 680,m4),(z "__firstlineno__" 684,.int 220 683),(z "__init__" 693,.ref 342),(z "told" 700,.ref 349),(z "__static_attributes__" 703,.ref 350),(z "__dict__" 705,.ref 353),(z "__weakref__" 707,.ref 354),(z "__doc__" 708,.none)] 4,kc "Line" [.type "object"] [.ref 352,.type "object"] 351 [] [none,none,some (z "Line" 673),some (z "Line" 681),some (.builtin "object.__new__"),some (.bool true)],gs [z "__dict__" 704,.ref 352,.builtin "function.__dict__",.builtin "function.__dict__#set"],gs [z "__weakref__" 706,.ref 352,.builtin "ExceptionGroup.__weakref__",.none],su [.ref 352,.ref 352,.ref 352],bm [.builtin "object.__init_subclass__",.ref 352]])) |>.set 12 (oN [.int 220 0,.int 0 0,.ref 334]) |>.set 3 (lJ P (S "Line") 710 (.ref 352)),
 pg m5,
 ag "FIGURES_decimals" 714 (z "0123456789" 713),
 d7 357 39 715 m5 722,
 fun P T=>(kr T 364 ([tu [.int 0 723]]++g7 (sA 40) (fNm (sA 40)) 365 724 m5 (.ref 364))) |>.set 12 (oN [.int 234 0,.int 0 0,.ref 370]) |>.set 3 (lJ P (S "decimal") 731 (.ref 371)),
 d7 372 41 732 m5 738,
 d7 379 42 739 m5 749,
 d7 386 43 750 m5 756,
 d7 393 44 757 m5 763,
 d7 400 45 764 m5 772,
 d7 407 46 773 m5 785,
 pg m6,
 ag "MOST_OCTET" 789 (.int 255 788),
 ag "RESERVED" 791 (.str rX 790),
 d7 414 50 792 m6 798,
 d5 421 51 799 m6 804,
 fun P T=>(kr T 426 ([tu [],bm [.builtin "type.__prepare__",.type "type"],dE P [(z "__module__" 812,m6),(z "__qualname__" 814,z "Reader" 813),(z "__firstlineno__" 816,.int 285 815),(z "__init__" 826,.ref 440),(z "peek" 835,.ref 448),(z "is_done" 842,.ref 455),(z "fault" 850,.ref 462),(z "take" 858,.ref 469),(z "is_kind" 869,.ref 477),(z "is_word" 879,.ref 484),(z "skip" 887,.ref 491),(z "need" 895,.ref 498),(z "one_of" 904,.ref 505),(z "word" 911,.ref 512),(z "is_name" 920,.ref 520),(z "name" 927,.ref 527),(z "names" 935,.ref 534),(z "is_sign" 945,.ref 542),(z "skip_sign" 953,.ref 549),(z "need_sign" 961,.ref 556),(z "is_number" 968,.ref 563),(z "signed" 977,.ref 570),(z "whole" 985,.ref 577),(z "literal" 992,.ref 584),(z "octets" 1000,.ref 591),(z "__static_attributes__" 1004,.ref 592)] 26,tu [],fl [.int 287 0,.int 4 0,.ref 439,.int 292 0,.int 4 0,.ref 447,.int 297 0,.int 4 0,.ref 454,.int 300 0,.int 4 0,.ref 461,.int 305 0,.int 4 0,.ref 468,.int 312 0,.int 4 0,.ref 476,.int 316 0,.int 4 0,.ref 483,.int 324 0,.int 4 0,.ref 490,.int 330 0,.int 4 0,.ref 497,.int 333 0,.int 4 0,.ref 504,.int 339 0,.int 4 0,.ref 511,.int 344 0,.int 4 0,.ref 519,.int 347 0,.int 4 0,.ref 526,.int 352 0,.int 4 0,.ref 533,.int 358 0,.int 4 0,.ref 541,.int 361 0,.int 4 0,.ref 548,.int 367 0,.int 4 0,.ref 555,.int 371 0,.int 4 0,.ref 562,.int 376 0,.int 4 0,.ref 569,.int 385 0,.int 4 0,.ref 576,.int 394 0,.int 4 0,.ref 583,.int 399 0,.int 4 0,.ref 590],co [z "Reader" 807,z "Reader" 808,z "/claim/cut.py" 809,.int 285 0,.int 0 0,.int 0 0,.int 0 0,.int 0 0,.ref 429,.bool false,.int 181 0,.ref 430,.none,.none,.none,.none,.int 810 0,.int 285 0,z "/claim/cut.py" 811],fo [some (.ref 431),some (.ref 3),some (.ref 428),none,some m6,none,some (.ref 0)],tu [.int 0 817]]++g7 (mA 52 0) (S "Reader.__init__") 434 818 m6 (.ref 433)++[tu [.int 0 827]]++g7 (mA 52 1) (S "Reader.peek") 442 828 m6 (.ref 441)++g7 (mA 52 2) (S "Reader.is_done") 449 836 m6 (.none)++g7 (mA 52 3) (S "Reader.fault") 456 843 m6 (.none)++g7 (mA 52 4) (S "Reader.take") 463 851 m6 (.none)++[tu [.int 0 859]]++g7 (mA 52 5) (S "Reader.is_kind") 471 860 m6 (.ref 470)++g7 (mA 52 6) (S "Reader.is_word") 478 870 m6 (.none)++g7 (mA 52 7) (S "Reader.skip") 485 880 m6 (.none)++g7 (mA 52 8) (S "Reader.need") 492 888 m6 (.none)++g7 (mA 52 9) (S "Reader.one_of") 499 896 m6 (.none)++g7 (mA 52 10) (S "Reader.word") 506 905 m6 (.none)++[tu [.int 0 912]]++g7 (mA 52 11) (S "Reader.is_name") 514 913 m6 (.ref 513)++g7 (mA 52 12) (S "Reader.name") 521 921 m6 (.none)++g7 (mA 52 13) (S "Reader.names") 528 928 m6 (.none)++[tu [.int 0 936]]++g7 (mA 52 14) (S "Reader.is_sign") 536 937 m6 (.ref 535)++g7 (mA 52 15) (S "Reader.skip_sign") 543 946 m6 (.none)++g7 (mA 52 16) (S "Reader.need_sign") 550 954 m6 (.none)++g7 (mA 52 17) (S "Reader.is_number") 557 962 m6 (.none)++g7 (mA 52 18) (S "Reader.signed") 564 969 m6 (.none)++g7 (mA 52 19) (S "Reader.whole") 571 978 m6 (.none)++g7 (mA 52 20) (S "Reader.literal") 578 986 m6 (.none)++g7 (mA 52 21) (S "Reader.octets") 585 993 m6 (.none)++[tu [z "at" 1001,z "named" 1002,z "tokens" 1003],dE P [(z "__module__" 812,m6),(z "__firstlineno__" 816,.int 285 815),(z "__init__" 826,.ref 440),(z "peek" 835,.ref 448),(z "is_done" 842,.ref 455),(z "fault" 850,.ref 462),(z "take" 858,.ref 469),(z "is_kind" 869,.ref 477),(z "is_word" 879,.ref 484),(z "skip" 887,.ref 491),(z "need" 895,.ref 498),(z "one_of" 904,.ref 505),(z "word" 911,.ref 512),(z "is_name" 920,.ref 520),(z "name" 927,.ref 527),(z "names" 935,.ref 534),(z "is_sign" 945,.ref 542),(z "skip_sign" 953,.ref 549),(z "need_sign" 961,.ref 556),(z "is_number" 968,.ref 563),(z "signed" 977,.ref 570),(z "whole" 985,.ref 577),(z "literal" 992,.ref 584),(z "octets" 1000,.ref 591),(z "__static_attributes__" 1004,.ref 592),(z "__dict__" 1006,.ref 595),(z "__weakref__" 1008,.ref 596),(z "__doc__" 1009,.none)] 4,kc "Reader" [.type "object"] [.ref 594,.type "object"] 593 [] [none,none,some (z "Reader" 805),some (z "Reader" 813),some (.builtin "object.__new__"),some (.bool true)],gs [z "__dict__" 1005,.ref 594,.builtin "function.__dict__",.builtin "function.__dict__#set"],gs [z "__weakref__" 1007,.ref 594,.builtin "ExceptionGroup.__weakref__",.none],su [.ref 594,.ref 594,.ref 594],bm [.builtin "object.__init_subclass__",.ref 594]])) |>.set 12 (oN [.int 285 0,.int 0 0,.ref 431]) |>.set 3 (lJ P (S "Reader") 1011 (.ref 594)),
 pg m7,
 ag "LETTERS" 1015 (z "ABCDEFGHIJKLMNOPQRSTUVWXYZ" 1014),
 ag "FIGURES_tokens" 1017 (z "0123456789" 1016),
 ag "WORD_SIGNS" 1021 (z "ABCDEFGHIJKLMNOPQRSTUVWXYZ0123456789-" 1020),
 ag "SINGLE_SIGNS" 1023 (z "():+-*/=<>" 1022),
 ag "DOUBLE_SIGNS" 1025 (z "** <= >=" 1024),
 ag "ENDS" 1027 (z ".,;" 1026),
 ag "MOST_WORD" 1029 (.int 30 1028),
 ag "MOST_FIGURES" 1031 (.int 18 1030),
 ag "MOST_LITERAL" 1033 (.int 160 1032)]
noncomputable def T96 (P:Params):BT:=rs P (T63 P) [fun P T=>(kr T 599 ([tu [],bm [.builtin "type.__prepare__",.type "type"],dE P [(z "__module__" 1041,m7),(z "__qualname__" 1043,z "Token" 1042),(z "__firstlineno__" 1045,.int 417 1044),(z "__init__" 1058,.ref 614),(z "told" 1065,.ref 621),(z "__static_attributes__" 1070,.ref 622)] 6,tu [],fl [.int 419 0,.int 4 0,.ref 613,.int 425 0,.int 4 0,.ref 620],co [z "Token" 1036,z "Token" 1037,z "/claim/cut.py" 1038,.int 417 0,.int 0 0,.int 0 0,.int 0 0,.int 0 0,.ref 602,.bool false,.int 181 0,.ref 603,.none,.none,.none,.none,.int 1039 0,.int 417 0,z "/claim/cut.py" 1040],fo [some (.ref 604),some (.ref 3),some (.ref 601),none,some m7,none,some (.ref 0)],tu [.int 0 1046,.int 0 1047],tu [.ref 606,.bool false]]++g7 (mA 63 0) (S "Token.__init__") 608 1048 m7 (.ref 607)++g7 (mA 63 1) (S "Token.told") 615 1059 m7 (.none)++[tu [z "at" 1066,z "is_in_a" 1067,z "kind" 1068,z "worth" 1069],dE P [(z "__module__" 1041,m7),(z "__firstlineno__" 1045,.int 417 1044),(z "__init__" 1058,.ref 614),(z "told" 1065,.ref 621),(z "__static_attributes__" 1070,.ref 622),(z "__dict__" 1072,.ref 625),(z "__weakref__" 1074,.ref 626),(z "__doc__" 1075,.none)] 4,kc "Token" [.type "object"] [.ref 624,.type "object"] 623 [] [none,none,some (z "Token" 1034),some (z "Token" 1042),some (.builtin "object.__new__"),some (.bool true)],gs [z "__dict__" 1071,.ref 624,.builtin "function.__dict__",.builtin "function.__dict__#set"],gs [z "__weakref__" 1073,.ref 624,.builtin "ExceptionGroup.__weakref__",.none],su [.ref 624,.ref 624,.ref 624],bm [.builtin "object.__init_subclass__",.ref 624]])) |>.set 12 (oN [.int 417 0,.int 0 0,.ref 604]) |>.set 3 (lJ P (S "Token") 1077 (.ref 624)),
 d7 629 64 1078 m7 1084,
 d5 636 65 1085 m7 1090,
 d7 641 66 1091 m7 1097,
 d7 648 67 1098 m7 1105,
 d7 655 68 1106 m7 1114,
 d7 662 69 1115 m7 1123,
 d7 669 70 1124 m7 1132,
 d7 676 71 1133 m7 1142,
 d7 683 72 1143 m7 1151,
 d5 690 73 1152 m7 1157,
 d7 695 74 1158 m7 1167,
 d7 702 75 1168 m7 1178,
 d7 709 76 1179 m7 1187,
 d7 716 77 1188 m7 1196,
 d7 723 78 1197 m7 1206,
 d7 730 79 1207 m7 1219,
 d7 737 80 1220 m7 1227,
 d7 744 81 1228 m7 1234,
 d7 751 82 1235 m7 1248,
 d7 758 83 1249 m7 1256,
 d7 765 84 1257 m7 1265,
 pg m8,
 fun P T=>(kr T 772 ([tu [z "A OF T" 1268,z "A" 1269,.int 1 1270],tu [z "A IN G" 1271,z "A" 1272,.int 1 1273],tu [z "A OF H" 1274,z "HA" 1275,.int 0 1276],tu [z "B" 1277,z "B" 1278,.int 2 1279],tu [z "b of U in T of G" 1280,z "B" 1281,.int 2 1282],tu [z "U" 1283,z "U" 1284,.int 2 1285],tu [z "T IN G" 1286,z "T" 1287,.int 1 1288],tu [z "G" 1289,z "G" 1290,.int 0 1291],tu [z "A IN F" 1292,z "HA" 1293,.int 0 1294],tu [z "H OF F" 1295,z "H" 1296,.int 0 1297],tu [z "A" 1298,z "" 1299,.int 0 1300],tu [z "B OF H" 1301,z "" 1302,.int 2 1303],tu [z "A OF G OF T" 1304,z "" 1305,.int 1 1306],tu [z "U-1" 1307,z "" 1308,.int 0 1309],tu [.ref 772,.ref 773,.ref 774,.ref 775,.ref 776,.ref 777,.ref 778,.ref 779,.ref 780,.ref 781,.ref 782,.ref 783,.ref 784,.ref 785]])) |>.set 3 (lJ P (S "_law_heads") 1310 (.ref 786)),
 d7 787 87 1311 m8 1321,
 d7 794 88 1322 m8 1335,
 d7 801 89 1336 m8 1351,
 d7 808 90 1352 m8 1359,
 d7 815 91 1360 m8 1367,
 d7 822 92 1368 m8 1374,
 d5 829 93 1375 m8 1380,
 d7 834 94 1381 m8 1389,
 d5 841 95 1390 m8 1395]
end
section
open W PyProof.Rows
noncomputable abbrev pw:Program:=PySem.Challenge.pw_pb0284_01
noncomputable def Bq:Env:={ scope:=pw.main.scope,locals:=mainNs,globals:=mainNs,cells:=[],code:=.ref 13,frame:=some 14 }
noncomputable def cE:Code:=.body bd Bq
noncomputable abbrev p0:Pos:=⟨0,0,0,0⟩
noncomputable def sh (T:Params->BT) (n k:Nat) (w:World) (os:OsState):SharedT:=⟨T w.params,n,{},#[],boot_drawn,k,os⟩
noncomputable def sl (i m:Nat):List Stmt:=(bd.drop i).take m
def GOK (i m s:Nat) (T T':Params->BT) (n k n' k':Nat) (q q':Pos):Prop:=∀w os,segRunT treeTable pw w 11 (some (.ref 6)) 1 s (sh T n k w os) (piecesOf (sl i m) Bq cE q [topFrame p0])=some (.next,sh T' n' k' w os,cE,q')
theorem g0:GOK 0 12 2060 T0 T12 15 187 203 465 ⟨0,0,0,0⟩ ⟨73,0,85,116⟩:=by
 intro w os;kernel_rfl
theorem g12:GOK 12 9 226 T12 T21 203 465 248 526 ⟨73,0,85,116⟩ ⟨120,0,120,15⟩:=by
 intro w os;kernel_rfl
theorem g21:GOK 21 1 176 T21 T22 248 526 249 560 ⟨120,0,120,15⟩ ⟨121,0,121,12⟩:=by
 intro w os
 have h:∀b:Bool,(fun w:World=>segRunT treeTable pw w 11 (some (.ref 6)) 1 176 (sh T21 248 526 w os) (piecesOf (sl 21 1) Bq cE ⟨120,0,120,15⟩ [topFrame p0])=some (.next,sh T22 249 560 w os,cE,⟨121,0,121,12⟩)) (w.withFollow "special-get-raises" b):=by
  intro b;cases b
  ·kernel_rfl
  ·kernel_rfl
 have e:=World.withFollow_self w "special-get-raises"
 exact e▸h _
theorem g22:GOK 22 41 2006 T22 T63 249 560 599 1034 ⟨121,0,121,12⟩ ⟨416,0,416,12⟩:=by
 intro w os;kernel_rfl
theorem g63:GOK 63 33 1279 T63 T96 599 1034 846 1396 ⟨416,0,416,12⟩ ⟨639,0,663,15⟩:=by
 intro w os;kernel_rfl
end
section
open W PyProof.Rows
theorem FT:∀w os,topGo treeTable pw w 11 (some (.ref 6)) 12 ⟨boot_heap w.params,#[],boot_drawn,boot_toks,os⟩ (topStub pw)=some ((sh T0 15 187 w os).abs,⟨denote treeTable cE,cE,p0,[topFrame p0]⟩):=by intro w os;kernel_rfl
theorem Aa:∀w os,segRun treeTable pw w 11 (some (.ref 6)) 1 1 (sh T0 15 187 w os).abs (blockOf bd Bq cE p0 [topFrame p0])=some (.next,(sh T0 15 187 w os).abs,cE,p0):=by intro w os;kernel_rfl
noncomputable def H1 (P:Params):Heap:=absHeap (T96 P) 846 {}
noncomputable def Sf (w:World) (os:OsState):Shared:=⟨H1 w.params,#[],boot_drawn,1396,os⟩
def Rn (i:Nat) (T:Params->BT) (n k:Nat) (q:Pos) (N:Nat):Prop:=∀w os,topRun treeTable pw w 11 (some (.ref 6)) N (sh T n k w os).abs (restOf (bd.drop i) Bq cE q [topFrame p0])=some (Sf w os)
theorem se {i m j s N n k n' k':Nat} {T T':Params->BT} {q q':Pos} (h:GOK i m s T T' n k n' k' q q') (r:Rn j T' n' k' q' N) (hj:i+m=j):Rn i T n k q (s+N):=by
 intro w os
 have e:=List.take_append_drop m (bd.drop i)
 rw [List.drop_drop,hj] at e
 rw [<-e]
 exact piece_app (segRun_of (h w os)) (r w os)
theorem Fs:Rn 96 T96 846 1396 ⟨639,0,663,15⟩ 2:=by intro w os;kernel_rfl
theorem D7:Rn 0 T0 15 187 p0 (2060+(226+(176+(2006+(1279+(2)))))):=se g0 (se g12 (se g21 (se g22 (se g63 (Fs) rfl) rfl) rfl) rfl) rfl
theorem FS:∀w os,topRun treeTable pw w 11 (some (.ref 6)) (12+(1+(2060+(226+(176+(2006+(1279+(2)))))))) ⟨boot_heap w.params,#[],boot_drawn,boot_toks,os⟩ (topStub pw)=some (Sf w os):=
 fun w os=>go_top (FT w os) (piece_block (Aa w os) (D7 w os))
theorem D8:∀w:World,(fencedOpening treeTable pw w 20000).map (fun s=>(s.heap,s.gens,s.drawn,s.toks))=some (boot_heap w.params,#[],boot_drawn,boot_toks):=
 boot_open (by kernel_rfl) (by decide) (by intro s;kernel_rfl)
theorem D6:∀w:World,((boot_heap w.params).isNs mainGlobals&&(#[]:Array GenState).size==0,(boot_heap w.params).objs.size,(boot_heap w.params).nsMap mainGlobals "__annotations__")=(true,11,some (.ref 6)):=by intro w;kernel_rfl
end
section
open W PyProof.Rows
noncomputable def qv:Program:=view pw [95]
noncomputable def Ho:Stmt->List Str
 |.FunctionDef n ..=>[n]
 |.ClassDef n ..=>[n]
 |.Assign ts _ _=>ts.filterMap fun|.Name x _=>some x|_=>none
 |_=>[]
noncomputable def lsv:List Str:=(bd.take 95).flatMap Ho
noncomputable def Xv:Shared->Bool:=fun Z=>true
theorem A8:∀w:World,(fun os=>((staticsOk (importedModules pw.main.body) (boot_heap w.params) (H1 w.params)&&namesBound pw (H1 w.params)&&gensDone ⟨H1 w.params,#[],boot_drawn,1396,os⟩&&laidKept (boot_heap w.params) (H1 w.params)),
    openSeen qv lsv (importedModules pw.main.body) Xv true ⟨H1 w.params,#[],boot_drawn,1396,os⟩,(fun s:Shared=>s.heap) ⟨H1 w.params,#[],boot_drawn,1396,os⟩))=fun Z=>(true,openGood qv lsv,H1 w.params):=by
 intro w
 kernel_rfl
theorem D9:LeftO pw qv lsv Xv (fun s:Shared=>s.heap) (fun w:World=>H1 w.params) 20000:=
 LeftO.of_pieces D8 D6 FS (by decide) A8
end
section
open W PyProof.Rows
noncomputable abbrev rw0:OpenLaw:=PySem.Challenge.rw_pb0284_01
noncomputable def dL:DefRec:=⟨fNm (sA 95),fAr (sA 95),fBd (sA 95),fSc (sA 95),(match sA 95 with|.FunctionDef _ _ _ _ _ _ _ _ _ p=>p|_=>default)⟩
theorem FR:defOf qv rw0.row.name=some (dL,[]):=by kernel_rfl
theorem FP:rw0.row.prog.theDef rw0.row.name=some (dL.params,dL.body,dL.scope):=by kernel_rfl
theorem Hv:kwWritten? dL.params.kwonlyargs dL.params.kw_defaults=some []:=by kernel_rfl
theorem Hu:(chainsOk qv&&opensWell rw0.row.prog&&(frees rw0.row.toRowW&&rw0.row.within.isEmpty))=true:=by kernel_rfl
end
section
set_option genSizeOf false
set_option genInjectivity false
set_option backward.match.sparseCases false
inductive TY where
 |range|tuple|list|str|zip|exception
inductive BF where
 |len|ord|chr|min|max|abs|isinst
noncomputable def TY.name:TY->String
 |.range => "range" |.tuple => "tuple" |.list => "list" |.str => "str" |.zip => "zip" |.exception => "Exception"
noncomputable def BF.name:BF->String
 |.len => "len" |.ord => "ord" |.chr => "chr" |.min => "min" |.max => "max" |.abs => "abs" |.isinst => "isinstance"
inductive V where
 |none|bool (b:Bool)|int (i:Int)|str (s:List Nat)
 |tup (xs:List V)|ref (n:Nat)|rng (a b:Int)
 |fn (a:Addr)|cls (a:Addr)|exc (c:Addr)|bt (T:TY)|bf (id:BF)
inductive FK where
 |s (x:List Nat)|i (n:Int)
 deriving DecidableEq
inductive Key where
 |s (x:List Nat)|t (ks:List FK)
 deriving DecidableEq
set_option genInjectivity true in
inductive O where
 |list (xs:List V)
 |dict (es:List (Key×V))
 |inst (c:Addr) (fs:List (Nat×V))
noncomputable abbrev H:=List O
inductive R (α:Type) where
 |ok (a:α) (h:H)|exc (c:Addr) (h:H)|bad
noncomputable abbrev PM (α:Type):=H->R α
noncomputable def R.bd {α β:Type} (m:R α) (f:α->H->R β):R β:=match m with
 |.ok a h=>f a h
 |.exc c h=>.exc c h
 |.bad=>.bad
noncomputable def bq {α β:Type} (o:Option β) (f:β->R α):R α:=match o with
 |some x=>f x
 |none=>.bad
noncomputable def ifR {α:Type} (b:Bool) (m:R α):R α:=match b with
 |true=>m
 |false=>.bad
noncomputable def ifO {α:Type} (b:Bool) (m:Option α):Option α:=match b with
 |true=>m
 |false=>none
noncomputable def bB {α:Type} (m:R Bool) (a b:H->R α):R α:=m.bd fun q h=>cond q (a h) (b h)
noncomputable def eB {α:Type} (o:Option α) (h:H):R α:=match o with
 |some x=>.ok x h
 |none=>.bad
inductive PE where
 |none|bool (b:Bool)|int (i:Int)|str (s:List Nat)
 |loc (x:Nat)|stat (v:V)
 |attr (e:PE) (x:Nat)
 |call (f:PE) (as:List PE)
 |meth (o:PE) (x:Nat) (as:List PE)
 |sub (e i:PE)|slice (e lo hi:PE)|rev (e:PE)
 |bin (op:Operator) (a b:PE)|neg (a:PE)|not (a:PE)
 |cmp (a:PE) (op:CmpOp) (b:PE)
 |chain (a:PE) (op:CmpOp) (b:PE) (op2:CmpOp) (c:PE)
 |and (a b:PE)|or (a b:PE)|ite (c a b:PE)
 |tup (es:List PE)|list (es:List PE)|dict (ks:List (List Nat)) (vs:List PE)
 |comp (elt:PE) (x:Nat) (iter:PE) (cond:PE)
inductive PS where
 |expr (e:PE)|asg (x:Nat) (e:PE)|asgT (xs:List Nat) (e:PE)|asgD (xs:List Nat) (es:List PE)
 |asgA (o:PE) (x:Nat) (e:PE)|asgI (o i e:PE)|asgTA (o:PE) (x:Nat) (o2:PE) (x2:Nat) (e:PE)
 |ret (e:PE)|ite (c:PE) (a b:List PS)|whl (c:PE) (b:List PS)
 |for_ (xs:List Nat) (one:Bool) (it:PE) (b:List PS)|forZip (xs:List Nat) (p q:PE) (b:List PS)
 |raiseC (f:PE) (as:List PE)|raiseM (o:PE) (x:Nat) (as:List PE)|retX (f:PE) (as:List PE)|try_ (b:List PS) (hs:List (Addr×List Nat))|cont
structure aA where
 params:List Nat
 dflts:List V
 body:List PS
structure iK where
 exc:Bool
 init:Addr
 meths:List (Nat×Addr)
structure PT where
 fn:List (Addr×aA)
 cl:List (Addr×iK)
noncomputable def V.isNone:V->Bool
 |.none=>true
 |_=>false
noncomputable def V.bool?:V->Option Bool
 |.bool b=>some b
 |_=>Option.none
noncomputable def V.int?:V->Option Int
 |.int i=>some i
 |_=>Option.none
noncomputable def V.str?:V->Option (List Nat)
 |.str s=>some s
 |_=>Option.none
noncomputable def V.tup?:V->Option (List V)
 |.tup s=>some s
 |_=>Option.none
noncomputable def V.ref?:V->Option Nat
 |.ref n=>some n
 |_=>Option.none
noncomputable def Bi:V->Bool
 |.bf _=>true
 |_=>false
noncomputable def O.list?:O->Option (List V)
 |.list xs=>some xs
 |_=>none
noncomputable def O.dict?:O->Option (List (Key×V))
 |.dict es=>some es
 |_=>none
noncomputable def O.inst?:O->Option (Addr×List (Nat×V))
 |.inst c fs=>some (c,fs)
 |_=>none
noncomputable def bv (h:H) (n:Nat):Option (List V):=h[n]?.bind O.list?
noncomputable def getD (h:H) (n:Nat):Option (List (Key×V)):=h[n]?.bind O.dict?
noncomputable def rZ (h:H) (n:Nat):Option (Addr×List (Nat×V)):=h[n]?.bind O.inst?
noncomputable def one {α:Type}:List α->Option α
 |[a]=>some a
 |_=>none
noncomputable def two {α:Type}:List α->Option (α×α)
 |[a,b]=>some (a,b)
 |_=>none
noncomputable def V.placed:V->Bool
 |.tup _=>true|.ref _=>true|.rng _ _=>true|.fn _=>true|.cls _=>true|.exc _=>true
 |_=>false
noncomputable def okP (a b:V):Bool:=!(a.isNone&&b.isNone)&&!(a.placed&&b.int?.isSome)
noncomputable def okT (xs:List V):Bool:=match two xs with
 |some p=>okP p.1 p.2
 |none=>true
noncomputable def az (a b:List Nat):Bool:=decide (a=b)
noncomputable def eqN (b:V):Option Bool:=if b.isNone then some true else b.str?.map fun Z=>false
noncomputable def eqS (x:List Nat) (b:V):Option Bool:=if b.isNone then some false else b.str?.map fun y=>az x y
noncomputable def vS (a b:V):Option Bool:=match a with
 |.none=>eqN b
 |.bool x=>b.bool?.map fun y=>x==y
 |.int x=>b.int?.map fun y=>x==y
 |.str x=>eqS x b
 |_=>none
noncomputable def oG:List V->List V->Option Bool
 |[],[]=>some true
 |[],_::_=>some false
 |_::_,[]=>some false
 |a::x,b::y=>(vS a b).bind fun p=>(oG x y).bind fun q=>some (p&&q)
noncomputable def veq (a b:V):Option Bool:=match a.tup? with
 |some xs=>(match b.tup? with
  |some ys=>oG xs ys
  |none=>b.str?.map fun Z=>false)
 |none=>(match b.tup? with
  |some _=>a.str?.map fun Z=>false
  |none=>vS a b)
noncomputable def n5:List Nat->List Nat->Bool
 |[],_=>true
 |_::_,[]=>false
 |a::x,b::y=>a==b&&n5 x y
noncomputable def subIn (a:List Nat):List Nat->Bool
 |[]=>a.isEmpty
 |b::y=>n5 a (b::y)||subIn a y
noncomputable def sb (a b:Nat) (h:H):Option Bool:=(bv h a).bind fun xs=>(bv h b).bind fun ys=>ifO (xs.isEmpty||ys.isEmpty) (some (xs.isEmpty&&ys.isEmpty))
noncomputable def kx (a b:V) (h:H):Option Bool:=match a.ref? with
 |some m=>b.ref?.bind fun n=>sb m n h
 |none=>veq a b
noncomputable def fG:List Nat->List Nat->Bool
 |[],_=>true
 |_::_,[]=>false
 |a::x,b::y=>decide (a < b)||(a==b&&fG x y)
noncomputable def V.seen:V->Bool
 |.str _=>true|.int _=>true|.tup _=>true|.bool _=>true|.ref _=>true
 |_=>false
noncomputable def vis (a b:V):Option Bool:=
 if b.isNone then (if a.isNone then some true else ifO a.seen (some false))
 else b.ref?.bind fun n=>if a.isNone then some false else a.ref?.map fun m=>m==n
noncomputable def cK:V->Option FK
 |.str x=>some (.s x)
 |.int n=>some (.i n)
 |_=>none
noncomputable def qx:V->Option Key
 |.str x=>some (.s x)
 |.tup xs=>(xs.mapM cK).map .t
 |_=>none
noncomputable def Key.isS:Key->Bool
 |.s _=>true
 |.t _=>false
noncomputable def iq (a b:Key):Bool:=a.isS==b.isS
noncomputable def dy (k:V) (es:List (Key×V)):Option Key:=(qx k).bind fun q=>ifO (es.all fun e=>iq q e.1) (some q)
noncomputable def dictSet (k:Key) (v:V) (es:List (Key×V)):List (Key×V):=
 if (es.lookup k).isSome then es.map (fun e=>if e.1=k then (e.1,v) else e) else es++[(k,v)]
noncomputable def Ht:Key->Option V
 |.s x=>some (.str x)
 |.t _=>none
noncomputable def bX:List V->Option (List (List Nat))
 |[]=>some []
 |v::r=>v.str?.bind fun s=>(bX r).map (s::·)
noncomputable def jO (x:List Nat) (ys:List V):Option Bool:=(bX ys).map fun ws=>ws.any fun y=>az x y
noncomputable def Ec (x:List Nat):O->Option Bool
 |.list xs=>jO x xs
 |.dict es=>(dy (.str x) es).map fun q=>(es.lookup q).isSome
 |.inst _ _=>none
noncomputable def Hk (x:List Nat) (b:V) (h:H):Option Bool:=match b with
 |.str y=>some (subIn x y)
 |.tup ys=>jO x ys
 |.ref n=>h[n]?.bind (Ec x)
 |_=>none
noncomputable def vin (a b:V) (h:H):Option Bool:=a.str?.bind fun x=>Hk x b h
noncomputable def gF {α:Type} (a b:V) (f:Int->Int->Option α):Option α:=a.int?.bind fun x=>b.int?.bind fun y=>f x y
noncomputable def leV (a b:V):Option Bool:=match a.str? with
 |some x=>b.str?.map fun y=>fG x y
 |none=>gF a b fun x y=>some (decide (x<=y))
noncomputable def aH (op:CmpOp) (a b:V) (h:H):Option Bool:=match op with
 |.Eq=>kx a b h
 |.NotEq=>(kx a b h).map (!·)
 |.Lt=>gF a b fun x y=>some (decide (x < y))
 |.LtE=>leV a b
 |.Gt=>gF a b fun x y=>some (decide (y < x))
 |.GtE=>gF a b fun x y=>some (decide (y<=x))
 |.Is=>vis a b
 |.IsNot=>(vis a b).map (!·)
 |.In=>vin a b h
 |.NotIn=>(vin a b h).map (!·)
noncomputable def lM (v:V) (h:H):Option Nat:=match v with
 |.str s=>some s.length
 |.tup s=>some s.length
 |.ref n=>(bv h n).map List.length
 |_=>none
noncomputable def oJ (v:V) (h:H):Option Nat:=(lM v h).bind fun n=>ifO (decide (n<=100000)) (some n)
noncomputable def truthy (v:V) (h:H):Option Bool:=match v with
 |.none=>some false
 |.bool b=>some b
 |.int i=>some (i != 0)
 |v=>(oJ v h).map fun n=>n != 0
noncomputable def small (i:Int):Bool:=decide (-9223372036854775808 < i)&&decide (i < 9223372036854775808)
noncomputable def fw (xs:List V) (h:H):R V:=.ok (.ref h.length) (h++[.list xs])
noncomputable def Ea (a b:V) (h:H):R V:=match a with
 |.int x=>bq b.int? fun y=>.ok (.int (x+y)) h
 |.str x=>bq b.str? fun y=>ifR (decide (x.length+y.length<=100000)) (.ok (.str (x++y)) h)
 |.tup x=>bq b.tup? fun y=>ifR (decide (x.length+y.length<=100000)&&okT (x++y)) (.ok (.tup (x++y)) h)
 |.ref m=>bq (bv h m) fun x=>bq b.ref? fun n=>bq (bv h n) fun y=>ifR (decide (x.length+y.length<=100000)) (fw (x++y) h)
 |_=>.bad
noncomputable def si (op:Operator) (x y:Int):Option Int:=match op with
 |.Sub=>some (x - y)
 |.Mult=>ifO (small x&&small y) (some (x*y))
 |.FloorDiv=>ifO (y != 0&&decide (y.natAbs < 1000000000)) (some (Int.fdiv x y))
 |.Mod=>ifO (y != 0) (some (Int.fmod x y))
 |_=>none
noncomputable def fK (op:Operator) (a b:V) (h:H):R V:=match op with
 |.Add=>Ea a b h
 |op=>bq (gF a b (si op)) fun i=>.ok (.int i) h
noncomputable def bo (n:Nat) (i:Int):Nat:=if i < 0 then (i+n).toNat else min i.toNat n
noncomputable def fu (n:Nat) (d:Nat) (v:V):Option Nat:=if v.isNone then some d else v.int?.map fun i=>bo n i
noncomputable def fU {α:Type} (l:List α) (lo hi:V):Option (List α):=(fu l.length 0 lo).bind fun a=>(fu l.length l.length hi).bind fun b=>ifO (decide (l.length<=100000)) (some ((l.take b).drop a))
noncomputable def aC {α:Type} (l:List α) (i:Int):Option α:=if small i=false then none else if 0<=i then l[i.toNat]? else if 0<=i+l.length then l[(i+l.length).toNat]? else none
noncomputable def Em (o:O) (i:V):Option V:=match o with
 |.list xs=>i.int?.bind fun k=>aC xs k
 |.dict es=>(dy i es).bind fun q=>es.lookup q
 |.inst _ _=>none
noncomputable def El (o i:V) (h:H):Option V:=match o with
 |.str s=>i.int?.bind fun k=>(aC s k).map fun c=>.str [c]
 |.tup xs=>i.int?.bind fun k=>aC xs k
 |.ref n=>h[n]?.bind fun o=>Em o i
 |_=>none
noncomputable def getItem (o i:V) (h:H):R V:=eB (El o i h) h
noncomputable def dp (o lo hi:V) (h:H):R V:=match o with
 |.str s=>bq (fU s lo hi) fun t=>.ok (.str t) h
 |.ref n=>bq (bv h n) fun xs=>bq (fU xs lo hi) fun t=>fw t h
 |_=>.bad
noncomputable def sT (o:V) (h:H):R V:=bq o.ref? fun n=>bq (bv h n) fun xs=>ifR (decide (xs.length<=100000)) (fw xs.reverse h)
noncomputable def Ef (o:O) (i v:V):Option O:=match o with
 |.list xs=>i.int?.bind fun k=>ifO (decide (0<=k/\k.toNat < xs.length)&&small k) (some (.list (xs.set k.toNat v)))
 |.dict es=>(dy i es).bind fun q=>ifO (decide (es.length<=1000)) (some (.dict (dictSet q v es)))
 |.inst _ _=>none
noncomputable def setItem (o i v:V) (h:H):R Unit:=bq o.ref? fun n=>bq h[n]? fun ob=>bq (Ef ob i v) fun ob'=>.ok () (h.set n ob')
noncomputable def b4 (x:Nat) (v:V):List (Nat×V)->List (Nat×V)
 |[]=>[(x,v)]
 |e::r=>if e.1=x then (x,v)::r else e::b4 x v r
noncomputable def lP (P:PT) (c:Addr) (x:Nat):Bool:=match P.cl.lookup c with
 |some ci=>!ci.exc&&(ci.meths.lookup x).isNone
 |none=>false
noncomputable def getAttr (P:PT) (o:V) (x:Nat) (h:H):R V:=bq o.ref? fun n=>bq (rZ h n) fun i=>bq (i.2.lookup x) fun v=>ifR (lP P i.1 x&&!Bi v) (.ok v h)
noncomputable def setAttr (P:PT) (o:V) (x:Nat) (v:V) (h:H):R Unit:=bq o.ref? fun n=>bq (rZ h n) fun i=>ifR (lP P i.1 x) (.ok () (h.set n (.inst i.1 (b4 x v i.2))))
noncomputable def newList (xs:List V) (h:H):R V:=ifR (decide (xs.length<=100000)) (fw xs h)
noncomputable def eN (ks:List (List Nat)) (vs:List V) (h:H):R V:=
 ifR (decide (ks.length=vs.length/\ks.Nodup/\ks.length<=10)) (.ok (.ref h.length) (h++[.dict ((ks.map Key.s).zip vs)]))
noncomputable def av (a b:Int):List V:=(List.range (b - a).toNat).map fun (i:Nat)=>V.int (a+(i:Int))
noncomputable def jL (a b:Int):Bool:=small a&&small b&&decide (b - a<=100000)
noncomputable def cW (es:List (Key×V)):Option (List V):=es.mapM fun e=>Ht e.1
noncomputable def sP:O->Option (List V)
 |.list xs=>some xs
 |.dict es=>cW es
 |.inst _ _=>none
noncomputable def items (v:V) (h:H):Option (List V):=match v with
 |.str s=>some (s.map fun c=>.str [c])
 |.tup xs=>some xs
 |.rng a b=>ifO (jL a b) (some (av a b))
 |.ref n=>h[n]?.bind sP
 |_=>none
noncomputable def isL (v:V) (h:H):Bool:=(v.ref?.bind (bv h)).isSome
noncomputable def BJ (n:Nat) (all:List V) (i:Nat) (h:H):Option (Option V):=(getD h n).bind fun es=>(cW es).bind fun l=>ifO (oG l all==some true) (some all[i]?)
noncomputable def FH (n i:Nat) (h:H):Option (Option V):=(bv h n).map fun xs=>xs[i]?
noncomputable def b5 (k:Bool) (src:V) (all:List V) (i:Nat) (h:H):Option (Option V):=match src.ref? with
 |some n=>(match k with
  |true=>FH n i h
  |false=>BJ n all i h)
 |none=>some all[i]?
noncomputable def qr (x y:Option V):Option (Option V):=match x with
 |none=>some none
 |some a=>(match y with
  |none=>some none
  |some b=>a.ref?.bind fun n=>b.int?.map fun k=>some (.tup [.ref n,.int k]))
noncomputable def d6 (v u:V) (i:Nat) (h:H):Option (Option V):=v.ref?.bind fun a=>u.ref?.bind fun b=>(bv h a).bind fun xs=>(bv h b).bind fun ys=>qr xs[i]? ys[i]?
noncomputable def occ (s:List Nat) (c limit:Nat):List Nat:=Builtin.Str.occurrences ⟨s.toArray⟩ ⟨#[c]⟩ 0 s.length limit
noncomputable def dj (s:List Nat) (c:Nat):List (List Nat):=match occ s c (s.length+1) with
 |[]=>[s]
 |i::r=>(Builtin.Str.partsBetween ⟨s.toArray⟩ (i::r) 1).map (·.cps.toList)
noncomputable def cF (sep:List Nat):List (List Nat)->List Nat
 |[]=>[]
 |x::r=>match r with
  |[]=>x
  |_::_=>x++sep++cF sep r
noncomputable def iJ (i:Int):Option (List Nat):=ifO (decide (0<=i/\i<=9)) (some [48+i.toNat])
noncomputable def qy (v:V):Option Bool:=match v with
 |.tup _=>some true
 |.str _=>some false
 |_=>none
noncomputable def V.isTyT:V->Bool
 |.bt .tuple=>true
 |_=>false
noncomputable def DV (id:BF) (as:List V) (h:H):Option V:=match id with
 |.len=>(one as).bind fun a=>(oJ a h).map fun (n:Nat)=>V.int (n:Int)
 |.ord=>(one as).bind fun a=>a.str?.bind fun s=>(one s).map fun (c:Nat)=>V.int (c:Int)
 |.chr=>(one as).bind fun a=>a.int?.bind fun i=>ifO (decide (0<=i/\i < 128)) (some (.str [i.toNat]))
 |.min=>(two as).bind fun p=>gF p.1 p.2 fun a b=>some (.int (min a b))
 |.max=>(two as).bind fun p=>gF p.1 p.2 fun a b=>some (.int (max a b))
 |.abs=>(one as).bind fun a=>a.int?.map fun (i:Int)=>V.int (i.natAbs:Int)
 |.isinst=>(two as).bind fun p=>ifO p.2.isTyT ((qy p.1).map .bool)
noncomputable def nz (as:List V):Option V:=match as with
 |[a]=>a.int?.map fun n=>.rng 0 n
 |a::r=>(one r).bind fun b=>gF a b fun x y=>some (.rng x y)
 |[]=>none
noncomputable def nh (v:V) (h:H):Option V:=match v with
 |.tup xs=>some (.tup xs)
 |.ref n=>(bv h n).bind fun xs=>ifO (decide (xs.length<=100000)&&okT xs) (some (.tup xs))
 |_=>none
noncomputable def sN (v:V) (h:H):Option (List V):=match v with
 |.ref n=>(bv h n).bind fun xs=>ifO (decide (xs.length<=100000)) (some xs)
 |.rng a b=>ifO (jL a b) (some (av a b))
 |_=>none
noncomputable def w8 (T:TY) (as:List V) (h:H):R V:=match T with
 |.range=>eB (nz as) h
 |.tuple=>eB ((one as).bind fun a=>nh a h) h
 |.list=>bq ((one as).bind fun a=>sN a h) fun xs=>fw xs h
 |.str=>eB ((one as).bind fun a=>a.int?.bind fun i=>(iJ i).map V.str) h
 |_=>.bad
noncomputable def oR (s:List Nat) (as:List V) (h:H):R V:=bq ((one as).bind fun a=>a.str?.bind one) fun c=>
 ifR (decide (0 < s.length/\s.length<=100000/\(dj s c).length<=100000/\c < 128)) (fw ((dj s c).map .str) h)
noncomputable def sf (s:List Nat) (as:List V) (h:H):Option V:=(one as).bind fun a=>a.ref?.bind fun n=>(bv h n).bind fun xs=>(bX xs).bind fun ws=>
 ifO (decide ((ws.map fun w=>w.length+s.length).sum<=100000)) (some (.str (cF s ws)))
noncomputable def iw (s:List Nat) (as:List V):Option V:=(two as).bind fun p=>(p.1.str?.bind one).bind fun c=>p.2.str?.bind fun t=>ifO (t.isEmpty&&(occ s c (s.length+1)).isEmpty) (some (.str s))
noncomputable def oS (s:List Nat) (as:List V):Option V:=(one as).bind fun a=>(a.str?.bind one).bind fun c=>(occ s c 1).head?.map fun (i:Nat)=>V.int (i:Int)
noncomputable def bK (s:List Nat) (x:Nat) (as:List V) (h:H):R V:=
 if x=4 then oR s as h else if x=5 then eB (sf s as h) h else if x=6 then eB (iw s as) h else if x=7 then eB (oS s as) h else .bad
noncomputable def nF (n:Nat) (xs:List V) (as:List V) (h:H):R V:=bq (one as) fun v=>ifR (decide (xs.length<=100000)) (.ok .none (h.set n (.list (xs++[v]))))
noncomputable def nE (n:Nat) (xs:List V) (as:List V) (h:H):R V:=bq (one as) fun v=>bq v.ref? fun m=>bq (bv h m) fun ys=>
 ifR (decide (m≠n/\xs.length+ys.length<=100000)) (.ok .none (h.set n (.list (xs++ys))))
noncomputable def Ej (n:Nat) (xs:List V) (as:List V) (h:H):R V:=ifR (as.isEmpty&&decide (xs.length<=100000)) (bq xs.getLast? fun v=>.ok v (h.set n (.list xs.dropLast)))
noncomputable def qw (n:Nat) (xs:List V) (x:Nat) (as:List V) (h:H):R V:=
 if x=0 then nF n xs as h else if x=1 then nE n xs as h else if x=2 then Ej n xs as h else .bad
noncomputable def wc (es:List (Key×V)) (x:Nat) (as:List V) (h:H):R V:=ifR (x==3) (bq (two as) fun p=>bq (dy p.1 es) fun q=>.ok ((es.lookup q).getD p.2) h)
noncomputable abbrev Loc:=List (Nat×V)
noncomputable def aZ:List Nat->List V->List V->Option Loc
 |[],as,_=>ifO as.isEmpty (some [])
 |p::ps,[],ds=>ifO (decide (ps.length < ds.length)) (some ((p::ps).zip (ds.drop (ds.length - (ps.length+1)))))
 |p::ps,a::as,ds=>(aZ ps as ds).map ((p,a)::·)
noncomputable def vV (v:V) (h:H):R V:=match v with
 |.exc _=>.bad
 |v=>.ok v h
inductive Mth where
 |own (f:Addr)|str|list|dict
noncomputable def Ei (P:PT) (x:Nat):O->Option Mth
 |.inst c fs=>(P.cl.lookup c).bind fun ci=>(ci.meths.lookup x).bind fun f=>ifO ((fs.lookup x).isNone&&!ci.exc) (some (.own f))
 |.list _=>ifO (decide (x<=2)) (some .list)
 |.dict _=>ifO (x==3) (some .dict)
noncomputable def yW (P:PT) (o:V) (x:Nat) (h:H):Option Mth:=match o with
 |.str _=>ifO (decide (4<=x/\x<=7)) (some .str)
 |.ref n=>h[n]?.bind (Ei P x)
 |_=>none
noncomputable def jt (P:PT) (o:V) (x:Nat) (h:H):R Mth:=eB (yW P o x h) h
noncomputable def noExc {α:Type} (m:R α):R α:=match m with
 |.exc _ _=>.bad
 |r=>r
noncomputable def xT (acc:List V):Option V->List V
 |some y=>acc++[y]
 |none=>acc
noncomputable def bN (nx:Nat->H->Option (Option V)) (elt:V->PM (Option V)):Nat->Nat->List V->PM (List V)
 |0,_,_,_=>.bad
 |n+1,i,acc,h=>bq (nx i h) fun o=>match o with
  |none=>.ok acc h
  |some v=>(elt v h).bd fun x h=>bN nx elt n (i+1) (xT acc x) h
noncomputable def yO {α:Type} (v:V) (h:H):R α:=match v with
 |.exc c=>.exc c h
 |_=>.bad
section
variable (P:PT) (cf:V->List V->PM V)
noncomputable def bJ (f:V) (as:List V) (h:H):R V:=match f with
 |.bf id=>eB (DV id as h) h
 |.bt T=>w8 T as h
 |f=>(cf f as h).bd vV
noncomputable def fJ (m:Mth) (o:V) (x:Nat) (as:List V) (h:H):R V:=match m with
 |.own f=>(cf (.fn f) (o::as) h).bd vV
 |.str=>bq o.str? fun s=>bK s x as h
 |.list=>bq o.ref? fun n=>bq (bv h n) fun xs=>qw n xs x as h
 |.dict=>bq o.ref? fun n=>bq (getD h n) fun es=>wc es x as h
noncomputable def gH (f:V) (as:List V) (h:H):R V:=match f with
 |.fn a=>cf (.fn a) as h
 |.cls a=>cf (.cls a) as h
 |_=>.bad
noncomputable def fZ (m:Mth) (o:V) (as:List V) (h:H):R V:=match m with
 |.own f=>cf (.fn f) (o::as) h
 |_=>.bad
mutual
noncomputable def ev (e:PE) (ρ:Loc) (h:H):R V:=match e with
 |.none=>.ok .none h
 |.bool b=>.ok (.bool b) h
 |.int i=>.ok (.int i) h
 |.str s=>.ok (.str s) h
 |.loc x=>eB (ρ.lookup x) h
 |.stat v=>.ok v h
 |.attr e x=>(ev e ρ h).bd fun o h=>getAttr P o x h
 |.call f as=>(ev f ρ h).bd fun g h=>(evs as ρ h).bd fun vs h=>bJ cf g vs h
 |.meth o x as=>(ev o ρ h).bd fun v h=>(jt P v x h).bd fun m h=>(evs as ρ h).bd fun vs h=>fJ cf m v x vs h
 |.sub e i=>(ev e ρ h).bd fun o h=>(ev i ρ h).bd fun k h=>getItem o k h
 |.slice e lo hi=>(ev e ρ h).bd fun o h=>(ev lo ρ h).bd fun a h=>(ev hi ρ h).bd fun b h=>dp o a b h
 |.rev e=>(ev e ρ h).bd fun o h=>sT o h
 |.bin op a b=>(ev a ρ h).bd fun x h=>(ev b ρ h).bd fun y h=>fK op x y h
 |.neg a=>(ev a ρ h).bd fun x h=>eB (x.int?.map fun (i:Int)=>V.int (-i)) h
 |.not a=>(ev a ρ h).bd fun x h=>eB ((truthy x h).map fun q=>.bool (!q)) h
 |.cmp a op b=>(ev a ρ h).bd fun x h=>(ev b ρ h).bd fun y h=>eB ((aH op x y h).map .bool) h
 |.chain a op b op2 c=>(ev a ρ h).bd fun x h=>(ev b ρ h).bd fun y h=>bq (aH op x y h) fun q=>cond q ((ev c ρ h).bd fun z h=>eB ((aH op2 y z h).map .bool) h) (.ok (.bool false) h)
 |.and a b=>(ev a ρ h).bd fun x h=>bq (truthy x h) fun q=>cond q (ev b ρ h) (.ok x h)
 |.or a b=>(ev a ρ h).bd fun x h=>bq (truthy x h) fun q=>cond q (.ok x h) (ev b ρ h)
 |.ite c a b=>bB (evT c ρ h) (fun h=>ev a ρ h) (fun h=>ev b ρ h)
 |.tup es=>(evs es ρ h).bd fun vs h=>ifR (okT vs) (.ok (.tup vs) h)
 |.list es=>(evs es ρ h).bd fun vs h=>newList vs h
 |.dict ks vs=>(evs vs ρ h).bd fun b h=>eN ks b h
 |.comp elt x it c=>(ev it ρ h).bd fun v h=>bq (items v h) fun xs=>(noExc (bN (b5 (isL v h) v xs) (fun v h=>bB (evT c ((x,v)::ρ) h) (fun h=>(ev elt ((x,v)::ρ) h).bd fun y h=>.ok (some y) h) (fun h=>.ok Option.none h)) 100000 0 [] h)).bd fun ys h=>newList ys h
noncomputable def evT (e:PE) (ρ:Loc) (h:H):R Bool:=match e with
 |.bool b=>.ok b h
 |.not a=>(evT a ρ h).bd fun q h=>.ok (!q) h
 |.and a b=>bB (evT a ρ h) (fun h=>evT b ρ h) (fun h=>.ok false h)
 |.or a b=>bB (evT a ρ h) (fun h=>.ok true h) (fun h=>evT b ρ h)
 |.cmp a op b=>(ev a ρ h).bd fun x h=>(ev b ρ h).bd fun y h=>eB (aH op x y h) h
 |.chain a op b op2 c=>(ev a ρ h).bd fun x h=>(ev b ρ h).bd fun y h=>bq (aH op x y h) fun q=>cond q ((ev c ρ h).bd fun z h=>eB (aH op2 y z h) h) (.ok false h)
 |.loc x=>bq (ρ.lookup x) fun v=>eB (truthy v h) h
 |.call f as=>(ev f ρ h).bd fun g h=>(evs as ρ h).bd fun vs h=>(bJ cf g vs h).bd fun v h=>eB (truthy v h) h
 |.meth o x as=>(ev o ρ h).bd fun v h=>(jt P v x h).bd fun m h=>(evs as ρ h).bd fun vs h=>(fJ cf m v x vs h).bd fun v h=>eB (truthy v h) h
 |.attr e x=>(ev e ρ h).bd fun o h=>(getAttr P o x h).bd fun v h=>eB (truthy v h) h
 |_=>.bad
noncomputable def evs (es:List PE) (ρ:Loc) (h:H):R (List V):=match es with
 |[]=>.ok [] h
 |e::r=>(ev e ρ h).bd fun v h=>(evs r ρ h).bd fun vs h=>.ok (v::vs) h
end
inductive Fl where
 |next|ret (v:V)|cont
noncomputable def aE:List Nat->List V->Loc->Option Loc
 |[],[],ρ=>some ρ
 |x::xs,v::vs,ρ=>aE xs vs ((x,v)::ρ)
 |_,_,_=>none
noncomputable def bS (m:R (Fl×Loc)) (k:Loc->H->R (Fl×Loc)):R (Fl×Loc):=m.bd fun q h=>match q.1 with
 |.next=>k q.2 h
 |f=>.ok (f,q.2) h
noncomputable def bL (m:R (Fl×Loc)) (k:Loc->H->R (Fl×Loc)):R (Fl×Loc):=m.bd fun q h=>match q.1 with
 |.ret v=>.ok (.ret v,q.2) h
 |_=>k q.2 h
noncomputable def cZ (t:Loc->PM Bool) (b:Loc->PM (Fl×Loc)):Nat->Loc->PM (Fl×Loc)
 |0,_,_=>.bad
 |n+1,ρ,h=>bB (t ρ h) (fun h=>bL (b ρ h) fun ρ' h=>cZ t b n ρ' h) (fun h=>.ok (.next,ρ) h)
noncomputable def fH (nx:Nat->H->Option (Option V)) (st:V->Loc->Option Loc) (b:Loc->PM (Fl×Loc)):Nat->Nat->Loc->PM (Fl×Loc)
 |0,_,_,_=>.bad
 |n+1,i,ρ,h=>bq (nx i h) fun o=>match o with
  |none=>.ok (.next,ρ) h
  |some v=>bq (st v ρ) fun ρ₁=>bL (b ρ₁ h) fun ρ' h=>fH nx st b n (i+1) ρ' h
noncomputable def oH (xs:List Nat) (k:Bool) (v:V) (ρ:Loc):Option Loc:=match k with
 |true=>(one xs).map fun x=>(x,v)::ρ
 |false=>v.tup?.bind fun vs=>aE xs vs ρ
variable (n:Nat)
noncomputable def isX (P:PT) (D:Addr):Bool:=match P.cl.lookup D with
 |some ci=>ci.exc
 |none=>false
noncomputable def exh (P:PT) (C:Addr):List (Addr×List Nat)->Option (List Nat)
 |[]=>none
 |p::r=>ifO (isX P p.1) (if C=p.1 then some p.2 else exh P C r)
noncomputable def caught (P:PT) (hs:List (Addr×List Nat)) (ρ:Loc) (m:R (Fl×Loc)):R (Fl×Loc):=match m with
 |.exc C h=>bq (ifO (isX P C) (exh P C hs)) fun t=>.ok (.ret (.str t),ρ) h
 |r=>r
mutual
noncomputable def ex (st:PS) (ρ:Loc) (h:H):R (Fl×Loc):=match st with
 |.expr e=>(ev P cf e ρ h).bd fun Z h=>.ok (.next,ρ) h
 |.asg x e=>(ev P cf e ρ h).bd fun v h=>.ok (.next,(x,v)::ρ) h
 |.asgT xs e=>(ev P cf e ρ h).bd fun v h=>bq (v.tup?.bind fun vs=>aE xs vs ρ) fun ρ'=>.ok (.next,ρ') h
 |.asgD xs es=>(evs P cf es ρ h).bd fun vs h=>bq (aE xs vs ρ) fun ρ'=>.ok (.next,ρ') h
 |.asgA o x e=>(ev P cf e ρ h).bd fun v h=>(ev P cf o ρ h).bd fun w h=>(setAttr P w x v h).bd fun Z h=>.ok (.next,ρ) h
 |.asgTA o x o2 x2 e=>(ev P cf e ρ h).bd fun v h=>bq (v.tup?.bind two) fun p=>(ev P cf o ρ h).bd fun w h=>(setAttr P w x p.1 h).bd fun Z h=>(ev P cf o2 ρ h).bd fun w2 h=>(setAttr P w2 x2 p.2 h).bd fun Z h=>.ok (.next,ρ) h
 |.asgI o i e=>(ev P cf e ρ h).bd fun v h=>(ev P cf o ρ h).bd fun w h=>(ev P cf i ρ h).bd fun k h=>(setItem w k v h).bd fun Z h=>.ok (.next,ρ) h
 |.ret e=>(ev P cf e ρ h).bd fun v h=>.ok (.ret v,ρ) h
 |.ite c a b=>bB (evT P cf c ρ h) (fun h=>exs a ρ h) (fun h=>exs b ρ h)
 |.whl c b=>cZ (evT P cf c) (exs b) n ρ h
 |.for_ xs k it b=>(ev P cf it ρ h).bd fun v h=>bq (items v h) fun all=>fH (b5 (isL v h) v all) (oH xs k) (exs b) 100000 0 ρ h
 |.forZip xs p q b=>(ev P cf p ρ h).bd fun v h=>(ev P cf q ρ h).bd fun u h=>fH (d6 v u) (oH xs false) (exs b) 100000 0 ρ h
 |.raiseC f as=>(ev P cf f ρ h).bd fun g h=>(evs P cf as ρ h).bd fun vs h=>(gH cf g vs h).bd yO
 |.raiseM o x as=>(ev P cf o ρ h).bd fun v h=>(jt P v x h).bd fun m h=>(evs P cf as ρ h).bd fun vs h=>(fZ cf m v vs h).bd yO
 |.retX f as=>(ev P cf f ρ h).bd fun g h=>(evs P cf as ρ h).bd fun vs h=>(gH cf g vs h).bd fun v h=>.ok (.ret v,ρ) h
 |.try_ b hs=>caught P hs ρ (exs b ρ h)
 |.cont=>.ok (.cont,ρ) h
noncomputable def exs (l:List PS) (ρ:Loc) (h:H):R (Fl×Loc):=match l with
 |[]=>.ok (.next,ρ) h
 |st::r=>bS (ex st ρ h) fun ρ' h=>exs r ρ' h
end
end
noncomputable def V.isStr:V->Bool
 |.str _=>true
 |_=>false
noncomputable def kM:List V->Bool
 |[]=>false
 |v::r=>v.isStr&&decide (r.length<=1)
noncomputable def qp (q:Fl×Loc) (h:H):R V:=match q.1 with
 |.ret v=>.ok v h
 |.next=>.ok .none h
 |.cont=>.bad
noncomputable def a9 (P:PT) (lim:Nat):Nat->V->List V->PM V
 |0,_,_,_=>.bad
 |n+1,f,as,h=>match f with
  |.fn f=>bq (P.fn.lookup f) fun fi=>bq (aZ fi.params as fi.dflts) fun ρ=>(exs P (a9 P lim n) lim fi.body ρ h).bd qp
  |.cls c=>bq (P.cl.lookup c) fun ci=>match ci.exc with
   |true=>ifR (kM as) (.ok (.exc c) h)
   |false=>(a9 P lim n (.fn ci.init) (.ref h.length::as) (h++[.inst c []])).bd fun v h'=>ifR v.isNone (.ok (.ref h.length) h')
  |_=>.bad
end
section
set_option backward.match.sparseCases false
open W PyProof.Rows
noncomputable abbrev AS:=List (Addr×Addr)
def foot (as:AS) (a:Addr):Prop:=∃p∈as,a=p.1\/a=p.2
noncomputable abbrev ah (s:List Nat):Str:=⟨s.toArray⟩
noncomputable def vNone:Value->Bool
 |.none=>true
 |_=>false
noncomputable def vRef:Value->Bool
 |.ref _=>true
 |_=>false
noncomputable def vInt:Value->Bool
 |.int _ _=>true
 |_=>false
noncomputable def okQ (x y:Value):Bool:=!(vNone x&&vNone y)&&!(vRef x&&vInt y)
noncomputable def ku (xs:List Value):Bool:=match two xs with
 |some p=>okQ p.1 p.2
 |none=>true
def gM (h:Heap) (a:Addr) (xs:List Value):Prop:=∃o n,h.get? a=some o/\o.cls=.type "tuple" /\ o.data=.seq xs.toArray n/\ku xs=true
def n7 (h:Heap) (a:Addr) (c:Addr):Prop:=∃o vs a0,h.get? a=some o/\o.cls=.ref c/\o.data=.fields vs/\vs[0]?=some a0/\vs[1]?=some .none
def C5 (h:Heap) (r:Addr) (a b:Int):Prop:=∃t u v,IsRange h r a b 1 t u v
mutual
inductive am (as:AS) (h:Heap):V->Value->Prop
 |none:am as h .none .none
 |bool (b:Bool):am as h (.bool b) (.bool b)
 |int (i:Int) (t:Tok):am as h (.int i) (.int i t)
 |str (s:List Nat) (t:Tok):am as h (.str s) (.str (ah s) t)
 |tup {xs:List V} {a:Addr} {ys:List Value}:gM h a ys->aj as h xs ys->am as h (.tup xs) (.ref a)
 |ref {n:Nat} {p:Addr×Addr}:as[n]?=some p->am as h (.ref n) (.ref p.1)
 |rng {a b:Int} {r:Addr}:C5 h r a b->am as h (.rng a b) (.ref r)
 |fn (a:Addr):am as h (.fn a) (.ref a)
 |cls (a:Addr):am as h (.cls a) (.ref a)
 |bt (T:TY):am as h (.bt T) (.type T.name)
 |bf (i:BF):am as h (.bf i) (.builtin i.name)
inductive aj (as:AS) (h:Heap):List V->List Value->Prop
 |nil:aj as h [] []
 |cons {v:V} {x:Value} {vs:List V} {xs:List Value}:am as h v x->aj as h vs xs->aj as h (v::vs) (x::xs)
end
section
variable {as:AS} {h:Heap} {v:V} {x:Value} {vs:List V} {xs:List Value}
def HF (as:AS) (h:Heap) (x:Value):V->Prop
 |.none=>x=.none
 |.bool b=>x=.bool b
 |.int i=>∃t,x=.int i t
 |.str s=>∃t,x=.str (ah s) t
 |.tup vs=>∃a ys,x=.ref a/\gM h a ys/\aj as h vs ys
 |.ref n=>∃p,as[n]?=some p/\x=.ref p.1
 |.rng a b=>∃q,x=.ref q/\C5 h q a b
 |.fn a=>x=.ref a
 |.cls a=>x=.ref a
 |.bt T=>x=.type T.name
 |.bf i=>x=.builtin i.name
 |.exc _=>False
theorem am.inv (r:am as h v x):HF as h x v:=by
 cases r with
 |none=>rfl
 |bool=>rfl
 |int _ t=>exact ⟨t,rfl⟩
 |str _ t=>exact ⟨t,rfl⟩
 |tup t q=>exact ⟨_,_,rfl,t,q⟩
 |ref q=>exact ⟨_,q,rfl⟩
 |rng q=>exact ⟨_,rfl,q⟩
 |_=>rfl
def Gs (as:AS) (h:Heap) (xs:List Value):List V->Prop
 |[]=>xs=[]
 |v::vs=>∃y ys,xs=y::ys/\am as h v y/\aj as h vs ys
theorem aj.inv (r:aj as h vs xs):Gs as h xs vs:=by
 cases r with
 |nil=>rfl
 |cons a b=>exact ⟨_,_,rfl,a,b⟩
theorem am.vNone (r:am as h v x):vNone x=v.isNone:=by cases r<;>rfl
theorem am.vRef (r:am as h v x):vRef x=v.placed:=by cases r<;>rfl
theorem am.vInt (r:am as h v x):vInt x=v.int?.isSome:=by cases r<;>rfl
theorem sH (q:okT vs=true) (r:aj as h vs xs):ku xs=true:=by
 cases r with
 |nil=>rfl
 |cons r1 r=>cases r with
  |nil=>rfl
  |cons r2 r=>cases r with
   |nil=>rw [<-q];unfold ku okT two okQ okP;simp only [r1.vNone,r2.vNone,r1.vRef,r2.vInt]
   |cons r3 r=>rfl
end
theorem pj {α:Type} {o:Option α} {p:α->Bool} (h:o.any p=true):∃x,o=some x/\p x=true:=by cases o with
 |none=>cases h
 |some x=>exact ⟨x,rfl,h⟩
theorem aV {a b:Bool} (h:(a&&b)=true):a=true/\b=true:=Bool.and_eq_true_iff.mp h
theorem kO {α β:Type} {o:Option α} {f:α->Option β} {y:β} (h:o.bind f=some y):∃x,o=some x/\f x=some y:=Option.bind_eq_some_iff.mp h
theorem bQ {α β:Type} {o:Option α} {f:α->β} {y:β} (h:o.map f=some y):∃x,o=some x/\f x=y:=Option.map_eq_some_iff.mp h
theorem yy {α:Type} {b:Bool} {o:Option α} {y:α} (h:ifO b o=some y):b=true/\o=some y:=by cases b with
 |true=>exact ⟨rfl,h⟩
 |false=>cases h
theorem ac {α:Type} {o:Option α} {p:α->Bool} {G:Prop} (h:o.any p=true) (k:∀x,o=some x->p x=true->G):G:=(pj h).elim fun x q=>k x q.1 q.2
theorem a7 {a b:Bool} {G:Prop} (h:(a&&b)=true) (k:a=true->b=true->G):G:=k (aV h).1 (aV h).2
theorem a8 {α β:Type} {o:Option α} {f:α->Option β} {y:β} {G:Prop} (h:o.bind f=some y) (k:∀x,o=some x->f x=some y->G):G:=(kO h).elim fun x q=>k x q.1 q.2
theorem aW {α β:Type} {o:Option α} {f:α->β} {y:β} {G:Prop} (h:o.map f=some y) (k:∀x,o=some x->f x=y->G):G:=(bQ h).elim fun x q=>k x q.1 q.2
theorem aJ {α:Type} {b:Bool} {o:Option α} {y:α} {G:Prop} (h:ifO b o=some y) (k:b=true->o=some y->G):G:=k (yy h).1 (yy h).2
def isO {α:Type} (p:α->Prop) (o:Option α):Prop:=match o with
 |some x=>p x
 |none=>True
theorem isO.to {α:Type} {p:α->Prop} {o:Option α} {x:α} (q:isO p o) (e:o=some x):p x:=by rw [e] at q;exact q
def isT (p:Prop) (b:Bool):Prop:=match b with
 |true=>p
 |false=>True
theorem isT.to {p:Prop} {b:Bool} (q:isT p b) (e:b=true):p:=by rw [e] at q;exact q
theorem one_of {α:Type} {l:List α} {a:α} (h:one l=some a):l=[a]:=isO.to (p:=fun a=>l=[a]) (by
 clear h
 rcases l with _|⟨x,l⟩
 ·exact trivial
 ·rcases l with _|_<;>first|exact trivial|exact rfl) h
theorem lQ {α:Type} {l:List α} {p:α×α} (h:two l=some p):l=[p.1,p.2]:=isO.to (p:=fun p=>l=[p.1,p.2]) (by
 clear h
 rcases l with _|⟨x,l⟩
 ·exact trivial
 ·rcases l with _|⟨y,l⟩
  ·exact trivial
  ·rcases l with _|_<;>first|exact trivial|exact rfl) h
theorem V.isNone_of {v:V} (h:v.isNone=true):v=.none:=isT.to (by clear h;rcases v with _|_<;>first|exact trivial|exact rfl) h
theorem V.bool_of {v:V} {b:Bool} (h:v.bool?=some b):v=.bool b:=isO.to (p:=fun b=>v=.bool b) (by clear h;rcases v with _|_<;>first|exact trivial|exact rfl) h
theorem V.int_of {v:V} {i:Int} (h:v.int?=some i):v=.int i:=isO.to (p:=fun b=>v=.int b) (by clear h;rcases v with _|_<;>first|exact trivial|exact rfl) h
theorem V.str_of {v:V} {s:List Nat} (h:v.str?=some s):v=.str s:=isO.to (p:=fun b=>v=.str b) (by clear h;rcases v with _|_<;>first|exact trivial|exact rfl) h
theorem V.tup_of {v:V} {s:List V} (h:v.tup?=some s):v=.tup s:=isO.to (p:=fun b=>v=.tup b) (by clear h;rcases v with _|_<;>first|exact trivial|exact rfl) h
theorem V.ref_of {v:V} {n:Nat} (h:v.ref?=some n):v=.ref n:=isO.to (p:=fun b=>v=.ref b) (by clear h;rcases v with _|_<;>first|exact trivial|exact rfl) h
theorem O.list_of {o:O} {xs:List V} (h:o.list?=some xs):o=.list xs:=isO.to (p:=fun b=>o=.list b) (by clear h;rcases o with _|_<;>first|exact trivial|exact rfl) h
theorem O.dict_of {o:O} {xs:List (Key×V)} (h:o.dict?=some xs):o=.dict xs:=isO.to (p:=fun b=>o=.dict b) (by clear h;rcases o with _|_<;>first|exact trivial|exact rfl) h
theorem O.inst_of {o:O} {i:Addr×List (Nat×V)} (h:o.inst?=some i):o=.inst i.1 i.2:=isO.to (p:=fun b=>o=.inst b.1 b.2) (by clear h;rcases o with _|_<;>first|exact trivial|exact rfl) h
theorem Af {h:H} {n:Nat} {xs:List V} (e:bv h n=some xs):h[n]?=some (.list xs):=by
 refine a8 e fun o e q=>?_
 rw [e,O.list_of q]
theorem Ah {h:H} {n:Nat} {es:List (Key×V)} (e:getD h n=some es):h[n]?=some (.dict es):=by
 refine a8 e fun o e q=>?_
 rw [e,O.dict_of q]
theorem Ag {h:H} {n:Nat} {i:Addr×List (Nat×V)} (e:rZ h n=some i):h[n]?=some (.inst i.1 i.2):=by
 refine a8 e fun o e q=>?_
 rw [e,O.inst_of q]
theorem nG {α:Type} {a b:V} {f:Int->Int->Option α} {y:α} (h:gF a b f=some y):∃i j,a=.int i/\b=.int j/\f i j=some y:=by
 refine a8 h fun i e h=>?_
 refine a8 h fun j e2 h=>?_
 exact ⟨i,j,V.int_of e,V.int_of e2,h⟩
def solid (o:Obj):Prop:=(o.cls=.type "tuple" /\ ∃xs n,o.data=.seq xs n/\ku xs.toList=true)\/(o.cls=.type "range" /\ ∃vs,o.data=.fields vs)
structure CV where
 ids:List Str
 gl:List (Str×V)
noncomputable def CV.id (C:CV) (x:Str):Option Nat:=C.ids.idxOf? x
noncomputable def sIs (x:List Nat):Value->Bool
 |.str y _=>decide (y=ah x)
 |_=>false
noncomputable def iIs (n:Int):Value->Bool
 |.int m _=>decide (m=n)
 |_=>false
noncomputable def FK.is (k:FK) (v:Value):Bool:=match k with
 |.s x=>sIs x v
 |.i n=>iIs n v
noncomputable def FK.hash (w:World):FK->Int
 |.s x=>hashStr w (ah x)
 |.i n=>hashInt n
theorem db {x y:List Nat} (h:ah x=ah y):x=y:=by
 simpa [ah] using h
theorem sG {x:List Nat} {v:Value} (h:sIs x v=true):∃t,v=.str (ah x) t:=isT.to (by
 clear h
 induction v using PySem.Value.casesOn with
 |str y t=>
  show isT _ (decide (y=ah x))
  by_cases e:y=ah x
  ·rw [e];exact (decide_eq_true rfl:decide (ah x=ah x)=true)▸⟨t,rfl⟩
  ·rw [decide_eq_false e];exact trivial
 |_=>exact trivial) h
theorem sS {n:Int} {v:Value} (h:iIs n v=true):∃t,v=.int n t:=isT.to (by
 clear h
 induction v using PySem.Value.casesOn with
 |int m t=>
  show isT _ (decide (m=n))
  by_cases e:m=n
  ·rw [e];exact (decide_eq_true rfl:decide (n=n)=true)▸⟨t,rfl⟩
  ·rw [decide_eq_false e];exact trivial
 |_=>exact trivial) h
theorem FK.is_shape {k:FK} {v:Value} (h:FK.is k v=true):(∃x t,k=.s x/\v=.str (ah x) t)\/∃n t,k=.i n/\v=.int n t:=by
 rcases k with x|n
 ·obtain ⟨t,e⟩:=sG h;exact .inl ⟨_,t,rfl,e⟩
 ·obtain ⟨t,e⟩:=sS h;exact .inr ⟨_,t,rfl,e⟩
theorem jG {I5:Program} {w:World} {A:Around} {E:Value->Shared->Prop} {s:Shared} {a:Str} {t:Tok} {b:Int} {u:Tok} {Q:Bool->Shared->Prop} (h:Q false s):
  wpAny (model I5 w) A (eqBool (.str a t) (.int b u)) Q E s:=by
 unfold eqBool
 refine wpAny_holding ?_
 show wpAny _ _ (if (Value.str a t==Value.int b u)=true then _ else _) Q E s
 rw [if_neg (by intro e;exact nomatch eq_of_beq e)]
 exact wpAny_bind (EqMixed.eq_str_int (wpAny_truthy_bool h))
theorem jH {I5:Program} {w:World} {A:Around} {E:Value->Shared->Prop} {s:Shared} {a:Int} {t:Tok} {b:Str} {u:Tok} {Q:Bool->Shared->Prop} (h:Q false s):
  wpAny (model I5 w) A (eqBool (.int a t) (.str b u)) Q E s:=by
 unfold eqBool
 refine wpAny_holding ?_
 show wpAny _ _ (if (Value.int a t==Value.str b u)=true then _ else _) Q E s
 rw [if_neg (by intro e;exact nomatch eq_of_beq e)]
 exact wpAny_bind (EqMixed.eq_int_str (wpAny_truthy_bool h))
noncomputable def FK.v (t:Tok):FK->Value
 |.s x=>.str (ah x) t
 |.i n=>.int n t
theorem FK.v_of {k:FK} {v:Value} (h:FK.is k v=true):∃t,v=FK.v t k:=by
 rcases k with x|n
 ·exact sG h
 ·exact sS h
theorem FK.v_inj {a b:FK} {t u:Tok} (h:FK.v t a=FK.v u b):a=b:=by
 rcases a with x|n<;>rcases b with y|m
 ·exact congrArg FK.s (db (Value.str.inj h).1)
 ·injection h
 ·injection h
 ·exact congrArg FK.i (Value.int.inj h).1
theorem FK.v_hash {I5:Program} {w:World} {A:Around} {E:Value->Shared->Prop} {s:Shared} {t:Tok} {Q:Int->Shared->Prop} (k:FK) (hq:Q (FK.hash w k) { s with toks:=s.toks+1 }):wpAny (model I5 w) A (PySem.pyHash (FK.v t k)) Q E s:=by
 rcases k with x|n
 ·exact wpAny_pyHash_str hq
 ·exact wpAny_pyHash_int hq
theorem FK.v_eq {I5:Program} {w:World} {A:Around} {E:Value->Shared->Prop} {s:Shared} {t u:Tok} {Q:Bool->Shared->Prop} (a b:FK) (hq:Q (decide (a=b)) s):wpAny (model I5 w) A (PySem.eqBool (FK.v t a) (FK.v u b)) Q E s:=by
 rcases a with x|n<;>rcases b with y|m
 ·exact wpAny_eqBool_str (show Q (decide (ah x=ah y)) s from (decide_eq_decide.mpr ⟨fun e=>congrArg FK.s (db e),fun e=>by injection e with e;exact congrArg ah e⟩:decide (ah x=ah y)=decide (FK.s x=FK.s y))▸hq)
 ·exact jG hq
 ·exact jH hq
 ·exact wpAny_eqBool_int (show Q (decide (n=m)) s from (decide_eq_decide.mpr ⟨fun e=>congrArg FK.i e,fun e=>by injection e⟩:decide (n=m)=decide (FK.i n=FK.i m))▸hq)
theorem FK.v_str {k:FK} {x:Str} {t u:Tok} (h:Value.str x t=FK.v u k) (v:Value):FK.is k v=v.isStr x:=by
 rcases k with y|n
 ·rw [(Value.str.inj h).1]
  rcases v with _|_<;>rfl
 ·injection h
noncomputable def eG (I5:Program) (w:World):KeyKind I5 w FK where
 is:=FK.is
 hash:=FK.hash w
 inj:=fun _ _ _ ha hb=>(FK.v_of ha).elim fun _ e=>(FK.v_of hb).elim fun _ e2=>FK.v_inj (e.symm.trans e2)
 byValue:=fun k _ h=>(FK.v_of h).elim fun _ e=>by rw [e];rcases k with _|_<;>rfl
 pyHash:=fun hk hq=>(FK.v_of hk).elim fun _ e=>e▸FK.v_hash _ hq
 eqBool:=fun ha hb hq=>(FK.v_of ha).elim fun _ e=>(FK.v_of hb).elim fun _ e2=>e▸e2▸FK.v_eq _ _ hq
 «strs» := fun _ _ _ v h=>(FK.v_of h).elim fun _ e=>FK.v_str e v
inductive bi (as:AS) (h:Heap):List (Key×V)->List (Str×Value)->Prop
 |nil:bi as h [] []
 |cons {x:List Nat} {v:V} {y:Value} {r:List (Key×V)} {l:List (Str×Value)}:am as h v y->bi as h r l->bi as h ((.s x,v)::r) ((ah x,y)::l)
inductive di (as:AS) (h:Heap):List (Key×V)->List (List FK×Addr×Value)->Prop
 |nil:di as h [] []
 |cons {ks:List FK} {v:V} {a:Addr} {y:Value} {r:List (Key×V)} {l:List (List FK×Addr×Value)}:am as h v y->di as h r l->di as h ((.t ks,v)::r) ((ks,a,y)::l)
section
variable (I5:Program) (w:World) (C:CV)
def qq (as:AS) (h:Heap):O->Addr×Addr->Prop
 |.list xs,p=>p.2=p.1/\∃ys n,h.get? p.1=some { cls:=.type "list",data:=.seq ys n }/\aj as h xs ys.toList
 |.dict es,p=>p.2=p.1/\((∃kvs,h.DictOf (strKind I5 w) p.1 kvs/\bi as h es kvs)\/∃rows,h.DictOfH (tupleKind (eG I5 w)) p.1 rows/\di as h es rows)
 |.inst c fs,p=>p.2≠p.1/\h.get? p.1=some (instObj c p.2)/\(∃o,h.get? p.2=some o/\o.cls=.type "dict")/\∃m,h.Ns1 p.2 m/\Within m C.ids/\
   ∀x y,C.id y=some x->match fs.lookup x with
    |some v=>∃z,m y=some z/\am as h v z
    |none=>m y=none
def z6 (p q:Addr×Addr):Prop:=p.1≠q.1/\p.1≠q.2/\p.2≠q.1/\p.2≠q.2
structure bW (B:Heap) (as:AS) (hh:H) (h:Heap):Prop where
 base:∀a o,B.get? a=some o->h.get? a=some o
 len:as.length=hh.length
 new:∀p∈as,B.get? p.1=none/\B.get? p.2=none
 apart:∀(i j:Nat) p q,as[i]?=some p->as[j]?=some q->i≠j->z6 p q
 obj:∀(i:Nat) o p,hh[i]?=some o->as[i]?=some p->qq I5 w C as h o p
end
def dA (h h':Heap) (a:Addr):Prop:=∀o es ep,h.get? a=some o->o.cls=.type "dict" -> o.data=.dict es ep->
 ∃o' es' ep',h'.get? a=some o'/\o'.cls=.type "dict" /\ o'.data=.dict es' ep'/\es.size<=es'.size/\(es.size=es'.size->ep=ep')
theorem dA.keep {h h':Heap} {a:Addr} (k:∀o,h.get? a=some o->h'.get? a=some o):dA h h' a:=fun o es ep g c d=>⟨o,es,ep,k o g,c,d,HM _,fun Z=>rfl⟩
theorem dA.none {h h':Heap} {a:Addr} (e:h.get? a=none):dA h h' a:=fun o es ep g=>by rw [e] at g;injection g
theorem dA.other {h h':Heap} {a:Addr} {o:Obj} (e:h.get? a=some o) (c:o.cls≠.type "dict"):dA h h' a:=fun o' es ep g c'=>by rw [e] at g;(injection g with g;subst g);exact absurd c' c
theorem dA.trans {Ie h₂ Ic:Heap} {a:Addr} (x:dA Ie h₂ a) (y:dA h₂ Ic a):dA Ie Ic a:=fun o es ep g c d=>by
 obtain ⟨o',es',ep',g',c',d',l,e⟩:=x o es ep g c d
 obtain ⟨o2,es2,ep2,g2,c2,d2,l2,e2⟩:=y o' es' ep' g' c' d'
 exact ⟨o2,es2,ep2,g2,c2,d2,HN l l2,fun h=>(e (by omega)).trans (e2 (by omega))⟩
def jP (o:Obj):Prop:=(∃c,o.cls=.ref c)/\∃vs,o.data=.fields vs
def w5 (o o':Obj):Prop:=(∃sl,o'={ o with slots:=sl })/\(o.cls≠.type "frame" -> o'=o)
theorem w5.refl (o:Obj):w5 o o:=⟨⟨o.slots,rfl⟩,fun Z=>rfl⟩
theorem w5.trans {IW Iy Iz:Obj} (x:w5 IW Iy) (y:w5 Iy Iz):w5 IW Iz:=by
 obtain ⟨⟨sl,rfl⟩,h⟩:=x
 obtain ⟨⟨sl',rfl⟩,h'⟩:=y
 exact ⟨⟨sl',rfl⟩,fun c=>(h' c).trans (h c)⟩
theorem w5.exc {o o':Obj} (x:w5 o o'):jP o↔jP o':=by
 obtain ⟨⟨sl,rfl⟩,_⟩:=x
 exact Iff.rfl
def hard (o:Obj):Prop:=¬jP o/\o.cls≠.type "frame"
theorem gQ {o:Obj} {T:String} (c:o.cls=.type T) (h:(T == "frame")=false):hard o:=by
 simp only [beq_eq_false_iff_ne] at h
 refine ⟨fun ⟨⟨_,e⟩,_⟩=>(by rw [c] at e;injection e),fun e=>?_⟩
 rw [c] at e;injection e with e;exact h e
theorem solid.hard {o:Obj} (h:solid o):hard o:=by
 rcases h with ⟨c,_⟩|⟨c,_⟩
 ·exact gQ c (by decide)
 ·exact gQ c (by decide)
structure dh (own:Addr->Prop) (as:AS) (h:Heap) (as':AS) (h':Heap):Prop where
 ext:∃r,as'=as++r/\∀p∈r,(h.get? p.1=none/\h.get? p.2=none)/\¬own p.1/\¬own p.2
 keep:∀a o,h.get? a=some o->¬foot as a->¬own a->¬jP o->∃o',h'.get? a=some o'/\w5 o o'
 live:∀a,(h.get? a).isSome=true->¬own a->(h'.get? a).isSome=true
 eps:∀a,¬own a->dA h h' a
theorem bE {as r:AS} {a:Addr}:foot (as++r) a↔foot as a\/foot r a:=by
 simp only [foot,List.mem_append]
 constructor
 ·rintro ⟨p,hp|hp,e⟩
  ·exact .inl ⟨p,hp,e⟩
  ·exact .inr ⟨p,hp,e⟩
 ·rintro (⟨p,hp,e⟩|⟨p,hp,e⟩)
  ·exact ⟨p,.inl hp,e⟩
  ·exact ⟨p,.inr hp,e⟩
abbrev ay:Addr->Prop:=fun Z=>False
theorem dh.refl (own:Addr->Prop) (as:AS) (h:Heap):dh own as h as h:=⟨⟨[],by simp,fun Z hp=>nomatch hp⟩,fun Z o e Z Z Z=>⟨o,e,.refl o⟩,fun Z e Z=>e,fun Z Z=>.keep fun Z e=>e⟩
theorem dh.trans {own:Addr->Prop} {I8 Ia Ik:AS} {Ie h₂ Ic:Heap} (x:dh own I8 Ie Ia h₂) (y:dh own Ia h₂ Ik Ic):dh own I8 Ie Ik Ic:=by
 obtain ⟨⟨r,rfl,hr⟩,k,l,ee⟩:=x
 obtain ⟨⟨r',rfl,hr'⟩,k',l',ee'⟩:=y
 have cG:∀a,¬own a->h₂.get? a=none->Ie.get? a=none:=fun a no e=>by
  rcases q:Ie.get? a with _|o
  ·rfl
  ·have:=l a (by rw [q];rfl) no;rw [e] at this;injection this
 refine ⟨⟨r++r',by simp,fun p hp=>?_⟩,fun a o e nf no hx=>?_,fun a e no=>l' a (l a e no) no,fun a no=>(ee a no).trans (ee' a no)⟩
 ·rcases List.mem_append.mp hp with hp|hp
  ·exact hr p hp
  ·exact ⟨⟨cG _ (hr' p hp).2.1 (hr' p hp).1.1,cG _ (hr' p hp).2.2 (hr' p hp).1.2⟩,(hr' p hp).2⟩
 ·obtain ⟨Iy,J5,H⟩:=k a o e nf no hx
  refine (fun ⟨Iz,J6,H'⟩=>⟨Iz,J6,H.trans H'⟩) (k' a Iy J5 (fun f=>?_) no fun q=>hx (H.exc.mpr q))
  rcases bE.mp f with f|⟨p,hp,f⟩
  ·exact nf f
  ·rcases f with rfl|rfl
   ·rw [(hr p hp).1.1] at e;injection e
   ·rw [(hr p hp).1.2] at e;injection e
theorem dh.lift {own:Addr->Prop} {as as':AS} {h h':Heap} (x:dh ay as h as' h') (ho:∀a,own a->(h.get? a).isSome=true):dh own as h as' h':=by
 obtain ⟨⟨r,e,hr⟩,k,l,ee⟩:=x
 refine ⟨⟨r,e,fun p hp=>⟨(hr p hp).1,fun o=>?_,fun o=>?_⟩⟩,fun a o e nf Z hx=>k a o e nf id hx,fun a e Z=>l a e id,fun a Z=>ee a id⟩
 ·have:=ho _ o;rw [(hr p hp).1.1] at this;injection this
 ·have:=ho _ o;rw [(hr p hp).1.2] at this;injection this
theorem dh.drop {own:Addr->Prop} {as as':AS} {h h':Heap} (x:dh own as h as' h') (ho:∀a,own a->h.get? a=none):dh ay as h as' h':=by
 obtain ⟨⟨r,e,hr⟩,k,l,ee⟩:=x
 refine ⟨⟨r,e,fun p hp=>⟨(hr p hp).1,id,id⟩⟩,fun a o e nf Z hx=>k a o e nf (fun w=>?_) hx,fun a e Z=>l a e fun w=>?_,fun a Z=>by
  rcases q:h.get? a with _|o
  ·exact .none q
  ·exact ee a fun w=>by rw [ho a w] at q;injection q⟩
 ·rw [ho a w] at e;injection e
 ·rw [ho a w] at e;injection e
theorem dh.grow (own:Addr->Prop) (as:AS) {h h':Heap} (k:∀a o,h.get? a=some o->h'.get? a=some o):dh own as h as h':=
 ⟨⟨[],by simp,fun Z hp=>nomatch hp⟩,fun a o e Z Z Z=>⟨o,k a o e,.refl o⟩,fun a e Z=>by
  rcases q:h.get? a with _|o
  ·rw [q] at e;injection e
  ·rw [k a o q];rfl,fun a Z=>.keep fun o e=>k a o e⟩
theorem dh.keepN {own:Addr->Prop} {as as':AS} {h h':Heap} {a:Addr} {o:Obj} (x:dh own as h as' h') (e:h.get? a=some o) (nf:¬foot as a) (no:¬own a) (hh:hard o):h'.get? a=some o:=by
 obtain ⟨o',e',H⟩:=x.keep a o e nf no hh.1
 rw [<-H.2 hh.2];exact e'
theorem dh.keepU {own:Addr->Prop} {as as':AS} {h h':Heap} {a:Addr} {o:Obj} (x:dh own as h as' h') (e:h.get? a=some o) (nf:¬foot as a) (no:¬own a) (hx:∀vs,o.data≠.fields vs):∃sl,h'.get? a=some { o with slots:=sl }:=by
 obtain ⟨o',e',⟨sl,rfl⟩,_⟩:=x.keep a o e nf no fun ⟨_,vs,q⟩=>hx vs q
 exact ⟨sl,e'⟩
theorem dh.pre {own:Addr->Prop} {as as':AS} {h h':Heap} (x:dh own as h as' h'):∃r,as'=as++r:=let ⟨r,e,_⟩:=x.ext;⟨r,e⟩
section
variable {I5:Program} {w:World} {C:CV} {B:Heap} {own:Addr->Prop} {as as':AS} {hh:H} {h h':Heap}
def Bd (o:Obj):Prop:=o.cls=.type "list" \/ o.cls=.type "dict" \/ ∃c,o.cls=.ref c/\o.data=.plain
def Bv (h:Heap) (a:Addr):Prop:=∃o,h.get? a=some o/\Bd o/\∀z,o.data≠.cell z
theorem qq.lies {o:O} {p:Addr×Addr} (q:qq I5 w C as h o p):Bv h p.1/\Bv h p.2:=by
 rcases o with xs|es|⟨c,fs⟩
 ·obtain ⟨e2,ys,n,g,_⟩:=q
  have:Bv h p.1:=⟨_,g,.inl rfl,fun z=>nofun⟩
  exact ⟨this,e2▸this⟩
 ·obtain ⟨e2,q⟩:=q
  have:Bv h p.1:=by
   rcases q with ⟨kvs,⟨o,_,_,g,c,d,_⟩,_⟩|⟨rows,⟨o,_,_,g,c,d,_⟩,_⟩
   ·exact ⟨o,g,.inr (.inl c.1),fun z e=>nomatch d.symm.trans e⟩
   ·exact ⟨o,g,.inr (.inl c.1),fun z e=>nomatch d.symm.trans e⟩
  exact ⟨this,e2▸this⟩
 ·obtain ⟨_,g,⟨o,g2,c2⟩,m,⟨o',_,_,g3,d3,_⟩,_⟩:=q
  rw [g2] at g3
  (injection g3 with g3;subst g3)
  exact ⟨⟨_,g,.inr (.inr ⟨c,rfl,rfl⟩),fun z=>nofun⟩,⟨o,g2,.inr (.inl c2),fun z e=>nomatch d3.symm.trans e⟩⟩
theorem bW.lies (R:bW I5 w C B as hh h) {a:Addr} (f:foot as a):Bv h a:=by
 obtain ⟨p,hp,e⟩:=f
 obtain ⟨i,hi,rfl⟩:=List.getElem_of_mem hp
 have q:=(R.obj i _ _ (HJ (by rw [<-R.len];exact hi)) (HJ hi)).lies
 rcases e with rfl|rfl
 ·exact q.1
 ·exact q.2
theorem bW.kind (R:bW I5 w C B as hh h) {a:Addr} (f:foot as a):∃o,h.get? a=some o/\Bd o:=let ⟨o,g,k,_⟩:=R.lies f;⟨o,g,k⟩
theorem bW.noCell (R:bW I5 w C B as hh h) {a:Addr} {o:Obj} (f:foot as a) (g:h.get? a=some o) (d:∃z,o.data=.cell z):False:=by
 obtain ⟨o',g',_,n⟩:=R.lies f
 rw [g] at g'
 (injection g' with g';subst g')
 exact d.elim fun z d=>n z d
theorem Bd.not {o:Obj} (k:Bd o) (h1:o.cls≠.type "list") (h2:o.cls≠.type "dict") (h3:o.data≠.plain):False:=by
 rcases k with k|k|⟨c,_,k⟩
 ·exact h1 k
 ·exact h2 k
 ·exact h3 k
theorem bW.off (R:bW I5 w C B as hh h) {a:Addr} {o:Obj} (e:h.get? a=some o) (h1:o.cls≠.type "list") (h2:o.cls≠.type "dict") (h3:o.data≠.plain):¬foot as a:=fun f=>by
 obtain ⟨o',e',k⟩:=R.kind f
 rw [e] at e';(injection e' with e';subst e')
 exact k.not h1 h2 h3
theorem bW.offSolid (R:bW I5 w C B as hh h) {a:Addr} {o:Obj} (e:h.get? a=some o) (sd:solid o):¬foot as a:=by
 rcases sd with ⟨c,xs,n,d,_⟩|⟨c,vs,d⟩
 ·exact R.off e (by rw [c];decide) (by rw [c];decide) (by rw [d];nofun)
 ·exact R.off e (by rw [c];decide) (by rw [c];decide) (by rw [d];nofun)
theorem am.mono' (hx:∃r,as'=as++r) (k:∀a o,h.get? a=some o->solid o->h'.get? a=some o):
  (∀{v x},am as h v x->am as' h' v x)/\(∀{vs xs},aj as h vs xs->aj as' h' vs xs):=by
 obtain ⟨r,rfl⟩:=hx
 have rf:∀{n:Nat} {p},as[n]?=some p->(as++r)[n]?=some p:=fun {n p} e=>by
  obtain ⟨hn,_⟩:=List.getElem?_eq_some_iff.mp e
  rw [HK hn];exact e
 constructor
 ·intro v x hv
  refine am.rec (motive_1:=fun v x Z=>am (as++r) h' v x) (motive_2:=fun vs xs Z=>aj (as++r) h' vs xs) ?_ ?_ ?_ ?_ ?_ ?_ ?_ ?_ ?_ ?_ ?_ ?_ ?_ hv
  ·exact .none
  ·exact fun b=>.bool b
  ·exact fun i t=>.int i t
  ·exact fun s t=>.str s t
  ·rintro xs a ys ⟨o,n,e,c,d,q⟩ _ ih
   exact .tup ⟨o,n,k _ _ e (.inl ⟨c,_,_,d,q⟩),c,d,q⟩ ih
  ·exact fun e=>.ref (rf e)
  ·rintro a b q ⟨t,u,v,e⟩
   exact .rng ⟨t,u,v,k _ _ e (.inr ⟨rfl,_,rfl⟩)⟩
  ·exact fun a=>.fn a
  ·exact fun a=>.cls a
  ·exact fun T=>.bt T
  ·exact fun i=>.bf i
  ·exact .nil
  ·exact fun Z Z i1 i2=>.cons i1 i2
 ·intro vs xs hv
  refine aj.rec (motive_1:=fun v x Z=>am (as++r) h' v x) (motive_2:=fun vs xs Z=>aj (as++r) h' vs xs) ?_ ?_ ?_ ?_ ?_ ?_ ?_ ?_ ?_ ?_ ?_ ?_ ?_ hv
  ·exact .none
  ·exact fun b=>.bool b
  ·exact fun i t=>.int i t
  ·exact fun s t=>.str s t
  ·rintro xs a ys ⟨o,n,e,c,d,q⟩ _ ih
   exact .tup ⟨o,n,k _ _ e (.inl ⟨c,_,_,d,q⟩),c,d,q⟩ ih
  ·exact fun e=>.ref (rf e)
  ·rintro a b q ⟨t,u,v,e⟩
   exact .rng ⟨t,u,v,k _ _ e (.inr ⟨rfl,_,rfl⟩)⟩
  ·exact fun a=>.fn a
  ·exact fun a=>.cls a
  ·exact fun T=>.bt T
  ·exact fun i=>.bf i
  ·exact .nil
  ·exact fun Z Z i1 i2=>.cons i1 i2
end
end
section
open W PyProof.Rows
section
variable (I5:Program) (w:World) (C:CV) (B:Heap)
structure aF (env:Env) (ρ:Loc) (as:AS) (h:Heap):Prop where
 kind:env.scope.kind=.function
 glob:env.globals=mainGlobals
 blt:env.builtins=builtinsNs
 off:¬foot as env.locals
 loc:∃m,h.Ns env.locals m/\∀y x v,C.id y=some x->env.kindOf y=some .local->ρ.lookup x=some v->∃z,m y=some z/\am as h v z
 cell:∀y x v,C.id y=some x->env.kindOf y=some .cell\/env.kindOf y=some .free->ρ.lookup x=some v->∃c o z,env.cells.lookup y=some c/\h.get? c=some o/\o.data=.cell (some z)/\am as h v z
 cellAt:∀y,env.kindOf y=some .cell\/env.kindOf y=some .free->∃c o z,env.cells.lookup y=some c/\h.get? c=some o/\o.data=.cell z
 apart:∀y z c,env.kindOf y=some .cell->env.cells.lookup y=some c->env.cells.lookup z=some c->y=z
def aG (env:Env) (a:Addr):Prop:=a=env.locals\/∃y,env.kindOf y=some .cell/\env.cells.lookup y=some a
def lF (fr:List Env) (h:Heap):Prop:=h.FunFrames B fr/\∀env∈fr,∃L o,env.frame=some L/\h.get? L=some o/\o.cls=.type "frame"
def bc (fr:List Env) (a:Addr):Prop:=∃env∈fr,env.frame=some a
structure aI (fr:List Env) (own:Addr->Prop) (as:AS) (s:Shared) (as':AS) (hh':H) (s':Shared):Prop where
 step:dh own as s.heap as' s'.heap
 rel:bW I5 w C B as' hh' s'.heap
 frs:lF B fr s'.heap
 gens:s'.gens=s.gens
 os:s'.os=s.os
noncomputable def C9 (B':Heap) (fr:List Env) (e c:Addr) (h:Heap):Prop:=
 n7 h e c\/(∃a0,h.TracedW B' e (.ref c) a0)\/∃a0 env rest L,fr=env::rest/\env.frame=some L/\h.TracedAtW B' e (.ref c) a0 (rawInt L)
structure bn (fr:List Env) (own:Addr->Prop) (as:AS) (s:Shared) (c:Addr) (hh':H) (s':Shared) (ev:Value) (e:Addr) (as':AS) (B':Heap):Prop where
 isRef:ev=.ref e
 stays:∀a o,B'.get? a=some o->s'.heap.get? a=some o
 new:B'.get? e=none
 frames:s'.heap.FunFrames B' fr
 aloft:C9 B' fr e c s'.heap
 step:dh (fun a=>own a\/bc fr a\/a=e) as s.heap as' B'
 rel:bW I5 w C B as' hh' B'
 frs:∀env∈fr,∃L o,env.frame=some L/\s'.heap.get? L=some o/\o.cls=.type "frame"
 was:∀o,s.heap.get? e=some o->jP o
 notOwn:¬own e
 slots:∀L o,bc fr L->s.heap.get? L=some o->¬own L->∃sl,s'.heap.get? L=some { o with slots:=sl }
 gens:s'.gens=s.gens
 os:s'.os=s.os
def ai {α β:Type} (RV:AS->Heap->α->β->Prop) (fr:List Env) (own:Addr->Prop) (as:AS) (s:Shared) (m:R α) (Q:β->Shared->Prop) (E:Value->Shared->Prop):Prop:=match m with
 |.ok v hh'=>∀as' s' x,aI I5 w C B fr own as s as' hh' s'->RV as' s'.heap v x->Q x s'
 |.exc c hh'=>∀s' ev e as' B',bn I5 w C B fr own as s c hh' s' ev e as' B'->E ev s'
 |.bad=>False
noncomputable def Sim {α β:Type} (RV:AS->Heap->α->β->Prop) (fr:List Env) (own:Addr->Prop) (A:Around) (t:Sem β) (m:R α) (as:AS) (s:Shared):Prop:=
 ∀Q E,ai I5 w C B RV fr own as s m Q E->wpAny (model I5 w) A t Q E s
end
section
variable {I5:Program} {w:World} {C:CV} {B:Heap} {fr:List Env} {own:Addr->Prop} {A:Around} {as as':AS} {s s':Shared} {hh hh':H}
theorem aI.trans {I8 Ia Ik:AS} {s₁ I6 s₃:Shared} {h₂ Ic:H} (x:aI I5 w C B fr own I8 s₁ Ia h₂ I6) (y:aI I5 w C B fr own Ia I6 Ik Ic s₃):aI I5 w C B fr own I8 s₁ Ik Ic s₃:=
 ⟨x.step.trans y.step,y.rel,y.frs,y.gens.trans x.gens,y.os.trans x.os⟩
theorem lF.frame_alive (F:lF B fr s.heap) {a:Addr} (h:bc fr a):∃o,s.heap.get? a=some o/\o.cls=.type "frame" /\ ∀vs,o.data≠.fields vs:=by
 obtain ⟨env,he,hf⟩:=h
 obtain ⟨L,o,hL,g,c⟩:=F.2 env he
 rw [hf] at hL
 (injection hL with hL;subst hL)
 refine ⟨o,g,c,?_⟩
 obtain ⟨_,o',g',d⟩:=F.1.mem (List.mem_filterMap.mpr ⟨env,he,hf⟩)
 rw [g] at g'
 (injection g' with g';subst g')
 exact d
theorem bn.after {I8 Ia Ik:AS} {s₁ I6 s₃:Shared} {h₂ Ic:H} {c:Addr} {ev:Value} {e:Addr} {B':Heap} (IM:lF B fr s₁.heap) (J7:∀a,bc fr a->¬foot I8 a) (x:aI I5 w C B fr own I8 s₁ Ia h₂ I6)
  (y:bn I5 w C B fr own Ia I6 c Ic s₃ ev e Ik B'):bn I5 w C B fr own I8 s₁ c Ic s₃ ev e Ik B':=by
 obtain ⟨y1,y2,y3,y4,y5,y6,y7,y8,yw,yn,y9,y10,y11⟩:=y
 have notE:∀a,foot Ia a->a≠e:=fun a f q=>by
  obtain ⟨r,er⟩:=y6.pre
  obtain ⟨o,g,_⟩:=y7.kind (a:=a) (by rw [er];exact bE.mpr (.inl f))
  rw [q,y3] at g;injection g
 refine ⟨y1,y2,y3,y4,y5,?_,y7,y8,fun o g=>Classical.byContradiction fun hx=>?_,yn,fun L o hL g no=>?_,y10.trans x.gens,y11.trans x.os⟩
 ·obtain ⟨⟨r,eq,hr⟩,k,l,ee⟩:=x.step
  have inr:∀p∈r,p∈Ia:=fun p hp=>by rw [eq];exact List.mem_append.mpr (.inr hp)
  refine dh.trans (h₂:=I6.heap) ⟨⟨r,eq,fun p hp=>⟨(hr p hp).1,fun q=>?_,fun q=>?_⟩⟩,fun a o g nf no hx=>k a o g nf (fun q=>no (.inl q)) hx,fun a g no=>l a g fun q=>no (.inl q),fun a no=>ee a fun q=>no (.inl q)⟩ y6
  ·rcases q with q|q|q
   ·exact (hr p hp).2.1 q
   ·obtain ⟨o,g,_⟩:=IM.frame_alive (s:=s₁) q
    rw [(hr p hp).1.1] at g;injection g
   ·exact notE _ ⟨p,inr p hp,.inl rfl⟩ q
  ·rcases q with q|q|q
   ·exact (hr p hp).2.2 q
   ·obtain ⟨o,g,_⟩:=IM.frame_alive (s:=s₁) q
    rw [(hr p hp).1.2] at g;injection g
   ·exact notE _ ⟨p,inr p hp,.inr rfl⟩ q
 ·obtain ⟨r,er⟩:=x.step.pre
  obtain ⟨o',g',H⟩:=x.step.keep e o g (fun f=>notE e (by rw [er];exact bE.mpr (.inl f)) rfl) yn hx
  exact hx (H.exc.mpr (yw o' g'))
 ·obtain ⟨o',g',_,d⟩:=IM.frame_alive (s:=s₁) hL
  rw [g] at g';(injection g' with g';subst g')
  obtain ⟨sl,Io⟩:=x.step.keepU g (J7 L hL) no d
  obtain ⟨sl',ID⟩:=y9 L _ hL Io no
  exact ⟨sl',ID⟩
theorem bW.frame_off (R:bW I5 w C B as hh s.heap) (F:lF B fr s.heap) {a:Addr} (h:bc fr a):¬foot as a:=by
 obtain ⟨o,g,c,d⟩:=F.frame_alive h
 intro f
 obtain ⟨o',g',k,_⟩:=R.lies f
 rw [g] at g';(injection g' with g';subst g')
 rcases k with k|k|⟨q,k,_⟩
 ·rw [c] at k;revert k;decide
 ·rw [c] at k;revert k;decide
 ·rw [c] at k;exact nomatch k
end
theorem xU {M:Model} {A:Around} {β:Type} {t:Sem β} {Q:β->Shared->Prop} {E:Value->Shared->Prop} {s:Shared} (h:∀K:β->Shared->Prop,(∀x s,Q x s->K x s)->wpAny M A t K E s):wpAny M A t Q E s:=h Q fun Z Z q=>q
end
section
set_option genSizeOf false
set_option genInjectivity false
set_option backward.match.sparseCases false
noncomputable def eC {α:Type} (e:Expr) (d:α) (con:Const->α:=fun Z=>d) (nam:Str->α:=fun Z=>d) (att:Expr->Str->Pos->α:=fun Z Z Z=>d) (cal:Expr->List Expr->List Keyword->Pos->α:=fun Z Z Z Z=>d)
  (sub:Expr->Expr->α:=fun Z Z=>d) (cut:Option Expr->Option Expr->Option Expr->α:=fun Z Z Z=>d) (bin:Expr->Operator->Expr->α:=fun Z Z Z=>d) (un:UnaryOp->Expr->α:=fun Z Z=>d)
  (cmp:Expr->List CmpOp->List Expr->α:=fun Z Z Z=>d) (boo:BoolOp->List Expr->Pos->α:=fun Z Z Z=>d) (ite:Expr->Expr->Expr->α:=fun Z Z Z=>d) (tup:List Expr->α:=fun Z=>d) (lis:List Expr->α:=fun Z=>d)
  (dic:List (Option Expr)->List Expr->α:=fun Z Z=>d) (com:Expr->List Comprehension->Scope->α:=fun Z Z Z=>d) (sta:α:=d) (oth:α:=d):α:=match e with
 |.Constant c _ _=>con c
 |.Name x _=>nam x
 |.Attribute o a p=>att o a p
 |.Call f as kw p=>cal f as kw p
 |.Subscript o i _=>sub o i
 |.Slice a b c _=>cut a b c
 |.BinOp a op b _=>bin a op b
 |.UnaryOp op a _=>un op a
 |.Compare a ops cs _=>cmp a ops cs
 |.BoolOp op es p=>boo op es p
 |.IfExp c a b _=>ite c a b
 |.Tuple es _ _=>tup es
 |.List es _=>lis es
 |.Dict ks vs _=>dic ks vs
 |.ListComp e gs sc _=>com e gs sc
 |.Starred _ _=>sta
 |.SetComp _ _ _ _=>oth
 |.DictComp _ _ _ _ _=>oth
 |_=>d
noncomputable def eM (e:Expr):Bool:=eC e true (cal:=fun f as kw Z=>!(eC f false (nam:=fun Z=>true)&&(as.isEmpty&&kw.isEmpty)))
noncomputable def eh (C:CV) (sc sc':Scope) (x:Str):Bool:=
 sc'.kind==.function&&sc'.names.lookup x==some .local&&sc'.names.all fun e=>e.2 != .cell&&(e.2 != .local||e.1==x||(C.id e.1).isNone)&&(e.2 != .local||sc'.names.lookup e.1==some .local)&&
  (e.2 != .free||((sc.names.lookup e.1==some .cell||sc.names.lookup e.1==some .free)&&sc'.names.lookup e.1==some .free))
noncomputable def dm (sc' sc:Scope):Scope:=
 { sc' with names:=sc'.names.map fun (n,k)=>if (k==.free&&sc.kind==.function&&sc.names.lookup n==some .cell) then (n,.cell) else (n,k) }
noncomputable def i5 (e:Expr):Option Const:=eC e none (con:=some)
noncomputable def E9:Const->Option Str
 |.str s=>some s
 |_=>none
noncomputable def jw (e:Expr):Option Str:=eC e none (nam:=some)
noncomputable def iF (e:Expr):Option (Expr×Str):=eC e none (att:=fun o a Z=>some (o,a))
noncomputable def sa (e:Expr):Option (Expr×List Expr):=eC e none (cal:=fun f as kw Z=>ifO kw.isEmpty (some (f,as)))
structure sk where
 o:Expr
 a:Str
 apos:Pos
 as:List Expr
 pos:Pos
noncomputable def Ci (f:Expr) (as:List Expr) (pos:Pos):Option sk:=eC f none (att:=fun o a apos=>some ⟨o,a,apos,as,pos⟩)
noncomputable def yT (e:Expr):Option sk:=eC e none (cal:=fun f as kw pos=>ifO kw.isEmpty (Ci f as pos))
noncomputable def sk.ok (t:sk):Bool:=eM t.o&&t.apos.endLine==t.pos.line&&decide (t.as.length < 30)
noncomputable def Be (e:Expr):Option (Expr×Expr):=eC e none (sub:=fun o i=>some (o,i))
noncomputable def Bf (e:Expr):Option (Option Expr×Option Expr×Option Expr):=eC e none (cut:=fun a b c=>some (a,b,c))
noncomputable def GD (e:Expr):Option (Expr×Operator×Expr):=eC e none (bin:=fun a op b=>some (a,op,b))
noncomputable def vUn (e:Expr):Option (UnaryOp×Expr):=eC e none (un:=fun op a=>some (op,a))
noncomputable def Ed (e:Expr):Option (Expr×List CmpOp×List Expr):=eC e none (cmp:=fun a ops cs=>some (a,ops,cs))
noncomputable def jx (op:BoolOp) (r:List Expr) (pos:Pos):Expr:=match r with
 |[e]=>e
 |r=>.BoolOp op r pos
noncomputable def Ck (op:BoolOp) (pos:Pos):List Expr->Option (BoolOp×Expr×Expr)
 |a::b::r=>some (op,a,jx op (b::r) pos)
 |_=>none
noncomputable def yU (e:Expr):Option (BoolOp×Expr×Expr):=eC e none (boo:=fun op es pos=>Ck op pos es)
noncomputable def vIf (e:Expr):Option (Expr×Expr×Expr):=eC e none (ite:=fun c a b=>some (c,a,b))
noncomputable def rT (e:Expr):Option (List Expr):=eC e none (tup:=some)
noncomputable def By (e:Expr):Option (List Expr):=eC e none (lis:=some)
noncomputable def BA (e:Expr):Option (List (Option Expr)×List Expr):=eC e none (dic:=fun ks vs=>some (ks,vs))
structure C8 where
 elt:Expr
 x:Str
 it:Expr
 ifs:List Expr
 sc:Scope
noncomputable def BB (e:Expr):Option C8:=eC e none (com:=fun elt gs sc'=>(one gs).bind fun g=>(jw g.target).bind fun x=>ifO (g.is_async==0) (some ⟨elt,x,g.iter,g.ifs,sc'⟩))
noncomputable def GR:List Expr->Option (Option Expr)
 |[]=>some none
 |y::r=>ifO r.isEmpty (some (some y))
noncomputable def pT (e:Expr):Bool:=(vUn e).any fun t=>t.1==.USub&&(i5 t.2).any fun c=>c==.int 1
noncomputable def dB (e:Expr):Bool:=eC e true (sta:=false)
noncomputable def V.fn?:V->Option Addr
 |.fn a=>some a
 |_=>Option.none
noncomputable def V.cls?:V->Option Addr
 |.cls a=>some a
 |_=>Option.none
noncomputable def TY.ix:TY->Nat
 |.range=>0|.tuple=>1|.list=>2|.str=>3|.zip=>4|.exception=>5
noncomputable def BF.ix:BF->Nat
 |.len=>0|.ord=>1|.chr=>2|.min=>3|.max=>4|.abs=>5|.isinst=>6
noncomputable def V.bt?:V->Option TY
 |.bt a=>some a
 |_=>Option.none
noncomputable def V.bf?:V->Option BF
 |.bf a=>some a
 |_=>Option.none
mutual
noncomputable def eqD (v w:V):Bool:=match v with
 |.none=>w.isNone
 |.bool b=>w.bool?==some b
 |.int b=>w.int?==some b
 |.str b=>w.str?==some b
 |.tup xs=>w.tup?.any fun ys=>EV xs ys
 |.fn a=>w.fn?==some a
 |.cls a=>w.cls?==some a
 |.bt a=>w.bt?.any fun b=>a.ix==b.ix
 |.bf a=>w.bf?.any fun b=>a.ix==b.ix
 |_=>false
noncomputable def EV (vs ws:List V):Bool:=match vs with
 |[]=>ws.isEmpty
 |v::vs=>ws.head?.any (fun w=>eqD v w)&&EV vs ws.tail
end
noncomputable def sg (k:Option NameKind):Bool:=k==some .local||k==some .cell||k==some .free
noncomputable def Bh:PE->Bool
 |.none=>true
 |_=>false
noncomputable def GP:PE->Bool
 |.bool true=>true
 |_=>false
noncomputable def GN (s:List Nat) (o:Option Expr):Bool:=o.any fun e=>(i5 e).any fun c=>(E9 c).any fun z=>z.cps.toList==s
noncomputable def mZ:List (List Nat)->List (Option Expr)->Bool
 |[],ks=>ks.isEmpty
 |s::r,ks=>ks.head?.any (GN s)&&mZ r ks.tail
mutual
noncomputable def bG (C:CV) (sc:Scope) (p:PE) (e:Expr):Bool:=match p with
 |.none=>(i5 e).any fun c=>c==.none
 |.bool b=>(i5 e).any fun c=>c==.bool b
 |.int i=>(i5 e).any fun c=>c==.int i
 |.str s=>(i5 e).any fun c=>(E9 c).any fun z=>z.cps.toList==s
 |.loc x=>(jw e).any fun y=>C.id y==some x&&sg (sc.names.lookup y)
 |.stat v=>(jw e).any fun y=>sc.names.lookup y==some .globalImplicit&&(C.gl.lookup y).any fun w=>eqD v w
 |.attr p x=>(iF e).any fun t=>C.id t.2==some x&&eM t.1&&bG C sc p t.1
 |.call f ps=>(sa e).any fun t=>(iF t.1).isNone&&bG C sc f t.1&&fV C sc ps t.2
 |.meth o x ps=>(yT e).any fun t=>C.id t.a==some x&&t.ok&&bG C sc o t.o&&fV C sc ps t.as
 |.sub o i=>(Be e).any fun t=>(Bf t.2).isNone&&bG C sc o t.1&&bG C sc i t.2
 |.slice o lo hi=>(Be e).any fun t=>(Bf t.2).any fun c=>c.2.2.isNone&&bG C sc o t.1&&c.1.elim (Bh lo) (fun x=>bG C sc lo x)&&c.2.1.elim (Bh hi) (fun x=>bG C sc hi x)
 |.rev o=>(Be e).any fun t=>(Bf t.2).any fun c=>c.1.isNone&&c.2.1.isNone&&c.2.2.any pT&&bG C sc o t.1
 |.bin op a b=>(GD e).any fun t=>t.2.1==op&&bG C sc a t.1&&bG C sc b t.2.2
 |.neg a=>(vUn e).any fun t=>t.1==.USub&&bG C sc a t.2
 |.not a=>(vUn e).any fun t=>t.1==.Not&&bG C sc a t.2
 |.cmp a op b=>(Ed e).any fun t=>t.2.1==[op]&&(one t.2.2).any fun y=>!behindInMarks op y&&bG C sc a t.1&&bG C sc b y
 |.chain a op b op2 c=>(Ed e).any fun t=>t.2.1==[op,op2]&&(two t.2.2).any fun y=>!behindInMarks op2 y.2&&bG C sc a t.1&&bG C sc b y.1&&bG C sc c y.2
 |.and a b=>(yU e).any fun t=>t.1==.And&&bG C sc a t.2.1&&bG C sc b t.2.2
 |.or a b=>(yU e).any fun t=>t.1==.Or&&bG C sc a t.2.1&&bG C sc b t.2.2
 |.ite c a b=>(vIf e).any fun t=>bG C sc c t.1&&bG C sc a t.2.1&&bG C sc b t.2.2
 |.tup ps=>(rT e).any fun es=>decide (es.length<=1000)&&fV C sc ps es
 |.list ps=>(By e).any fun es=>decide (es.length<=1000)&&fV C sc ps es
 |.dict ks ps=>(BA e).any fun t=>decide (t.1.length=t.2.length/\t.1.length<=10)&&mZ ks t.1&&fV C sc ps t.2
 |.comp elt x it c=>(BB e).any fun t=>C.id t.x==some x&&eh C sc t.sc t.x&&bG C (dm t.sc sc) elt t.elt&&bG C sc it t.it&&
   (GR t.ifs).any fun o=>o.elim (GP c) fun y=>bG C (dm t.sc sc) c y
noncomputable def fV (C:CV) (sc:Scope) (ps:List PE) (es:List Expr):Bool:=match ps with
 |[]=>es.isEmpty
 |p::ps=>es.head?.any (fun e=>dB e&&bG C sc p e)&&fV C sc ps es.tail
end
noncomputable def eg (v:Expr):Bool:=(rT v).any fun vs=>vs.all (constantsAlone 8)&&!vs.all (foldedForSure 8)
noncomputable def DW (C:CV) (sc:Scope) (x:Nat) (t:Expr):Bool:=(jw t).any fun y=>C.id y==some x&&(sc.names.lookup y==some .local||sc.names.lookup y==some .cell)
noncomputable def cJ (C:CV) (sc:Scope):List Nat->List Expr->Bool
 |[],ts=>ts.isEmpty
 |x::xs,ts=>ts.head?.any (DW C sc x)&&cJ C sc xs ts.tail
noncomputable def gP (e:Expr):Bool:=eC e true (com:=fun Z Z Z=>false) (oth:=false)
noncomputable def sC {α:Type} (st:Stmt) (d:α) (exp:Expr->α:=fun Z=>d) (asg:List Expr->Expr->α:=fun Z Z=>d) (ret:Option Expr->α:=fun Z=>d) (ite:Expr->List Stmt->List Stmt->α:=fun Z Z Z=>d)
  (whl:Expr->List Stmt->List Stmt->α:=fun Z Z Z=>d) (fo:Expr->Expr->List Stmt->List Stmt->α:=fun Z Z Z Z=>d) (rai:Option Expr->Option Expr->α:=fun Z Z=>d)
  (tr:List Stmt->List ExceptHandler->List Stmt->List Stmt->α:=fun Z Z Z Z=>d) (con:α:=d):α:=match st with
 |.Expr e _=>exp e
 |.Assign ts v _=>asg ts v
 |.Return e _=>ret e
 |.If c a b _=>ite c a b
 |.While c b o _=>whl c b o
 |.For t it b o _=>fo t it b o
 |.Raise e c _=>rai e c
 |.Try b hs o f _=>tr b hs o f
 |.Continue _=>con
 |_=>d
noncomputable def BE (st:Stmt):Option Expr:=sC st none (exp:=some)
noncomputable def yN (st:Stmt):Option (Expr×Expr):=sC st none (asg:=fun ts v=>(one ts).map fun t=>(t,v))
noncomputable def DR (st:Stmt):Option (Option Expr):=sC st none (ret:=some)
noncomputable def sIf (st:Stmt):Option (Expr×List Stmt×List Stmt):=sC st none (ite:=fun c a b=>some (c,a,b))
noncomputable def GF (st:Stmt):Option (Expr×List Stmt):=sC st none (whl:=fun c b o=>ifO o.isEmpty (some (c,b)))
noncomputable def DS (st:Stmt):Option (Expr×Expr×List Stmt):=sC st none (fo:=fun t it b o=>ifO o.isEmpty (some (t,it,b)))
noncomputable def sF (st:Stmt):Option Expr:=sC st none (rai:=fun e c=>ifO c.isNone e)
noncomputable def GG (st:Stmt):Option (List Stmt×List ExceptHandler):=sC st none (tr:=fun b hs o f=>ifO (o.isEmpty&&f.isEmpty&&!hs.isEmpty) (some (b,hs)))
noncomputable def BG (st:Stmt):Bool:=sC st false (con:=true)
structure C6 where
 x:Str
 t:Str
noncomputable def Hx:List Stmt->Option Str
 |st::r=>ifO r.isEmpty ((DR st).bind fun e=>e.bind fun e=>(i5 e).bind E9)
 |[]=>none
noncomputable def Bz:ExceptHandler->Option C6
 |.ExceptHandler ty nm b _=>ifO nm.isNone ((ty.bind jw).bind fun x=>(Hx b).map fun t=>⟨x,t⟩)
noncomputable def yz (C:CV) (sc:Scope) (p:Addr×List Nat) (hd:ExceptHandler):Bool:=(Bz hd).any fun t=>sc.names.lookup t.x==some .globalImplicit&&((C.gl.lookup t.x).any fun w=>eqD (.cls p.1) w)&&t.t.cps.toList==p.2
noncomputable def iA (C:CV) (sc:Scope):List (Addr×List Nat)->List ExceptHandler->Bool
 |[],hs=>hs.isEmpty
 |p::r,hs=>hs.head?.any (yz C sc p)&&iA C sc r hs.tail
noncomputable def n6:PE->Bool
 |.stat (.fn _)=>true
 |.stat (.cls _)=>true
 |_=>false
mutual
noncomputable def E8 (C:CV) (sc:Scope) (p:PS) (st:Stmt):Bool:=match p with
 |.expr p=>(BE st).any fun e=>gP e&&bG C sc p e
 |.asg x p=>(yN st).any fun t=>DW C sc x t.1&&bG C sc p t.2
 |.asgT xs p=>(yN st).any fun t=>(rT t.1).any (cJ C sc xs)&&(rT t.2).isNone&&bG C sc p t.2
 |.asgD xs ps=>(yN st).any fun t=>(rT t.1).any (cJ C sc xs)&&!eg t.2&&(rT t.2).any fun vs=>decide (vs.length<=1000)&&fV C sc ps vs
 |.asgA o x p=>(yN st).any fun t=>(iF t.1).any (fun a=>C.id a.2==some x&&bG C sc o a.1)&&bG C sc p t.2
 |.asgTA o x o2 x2 p=>(yN st).any fun t=>((rT t.1).bind two).any (fun q=>(iF q.1).any (fun a=>C.id a.2==some x&&bG C sc o a.1)&&(iF q.2).any fun a=>C.id a.2==some x2&&bG C sc o2 a.1)&&bG C sc p t.2
 |.asgI o i p=>(yN st).any fun t=>(Be t.1).any (fun a=>(Bf a.2).isNone&&bG C sc o a.1&&bG C sc i a.2)&&bG C sc p t.2
 |.ret p=>(DR st).any fun o=>o.elim (Bh p) fun e=>bG C sc p e
 |.retX f ps=>(DR st).any fun o=>o.any fun e=>(sa e).any fun t=>(jw t.1).isSome&&n6 f&&bG C sc f t.1&&fV C sc ps t.2
 |.ite c a b=>(sIf st).any fun t=>bG C sc c t.1&&gG C sc a t.2.1&&gG C sc b t.2.2
 |.whl c b=>(GF st).any fun t=>bG C sc c t.1&&gG C sc b t.2
 |.for_ xs true it b=>(DS st).any fun t=>(one xs).any (fun x=>DW C sc x t.1)&&bG C sc it t.2.1&&gG C sc b t.2.2
 |.for_ xs false it b=>(DS st).any fun t=>(rT t.1).any (cJ C sc xs)&&bG C sc it t.2.1&&gG C sc b t.2.2
 |.forZip xs p q b=>(DS st).any fun t=>(rT t.1).any (cJ C sc xs)&&(sa t.2.1).any (fun c=>(jw c.1).isSome&&bG C sc (.stat (.bt .zip)) c.1&&(two c.2).any fun y=>dB y.1&&dB y.2&&bG C sc p y.1&&bG C sc q y.2)&&gG C sc b t.2.2
 |.raiseC f ps=>(sF st).any fun e=>(sa e).any fun t=>(jw t.1).isSome&&bG C sc f t.1&&fV C sc ps t.2
 |.raiseM o x ps=>(sF st).any fun e=>(yT e).any fun t=>C.id t.a==some x&&t.ok&&bG C sc o t.o&&fV C sc ps t.as
 |.try_ b hs=>(GG st).any fun t=>iA C sc hs t.2&&gG C sc b t.1
 |.cont=>BG st
noncomputable def gG (C:CV) (sc:Scope) (ps:List PS) (l:List Stmt):Bool:=match ps with
 |[]=>l.isEmpty
 |p::ps=>l.head?.any (fun st=>E8 C sc p st)&&gG C sc ps l.tail
end
noncomputable def td (C:CV) (a:Arguments):Option (List Nat):=match a with
 |⟨[],as,none,[],[],none,_⟩=>as.mapM fun x=>C.id x.arg
 |_=>none
section
variable {e:Expr}
theorem da {c:Const} (h:i5 e=some c):∃k p,e=.Constant c k p:=isO.to (p:=fun c=>∃k p,e=.Constant c k p) (by clear h;rcases e with _|_<;>first|exact trivial|exact ⟨_,_,rfl⟩) h
theorem nP {c:Const} {z:Str} (h:E9 c=some z):c=.str z:=isO.to (p:=fun z=>c=.str z) (by clear h;rcases c with _|_<;>first|exact trivial|exact rfl) h
theorem dX {x:Str} (h:jw e=some x):∃p,e=.Name x p:=isO.to (p:=fun x=>∃p,e=.Name x p) (by clear h;rcases e with _|_<;>first|exact trivial|exact ⟨_,rfl⟩) h
theorem io {t:Expr×Str} (h:iF e=some t):∃p,e=.Attribute t.1 t.2 p:=isO.to (p:=fun t=>∃p,e=.Attribute t.1 t.2 p) (by clear h;rcases e with _|_<;>first|exact trivial|exact ⟨_,rfl⟩) h
theorem ifO.is {α:Type} {p:α->Prop} {b:Bool} {o:Option α} (h:b=true->isO p o):isO p (ifO b o):=by
 rcases b with _|_
 ·exact trivial
 ·exact h rfl
theorem aL {α:Type} {l:List α} (h:l.isEmpty=true):l=[]:=List.isEmpty_iff.mp h
theorem cG {α:Type} {l:Option α} (h:l.isNone=true):l=none:=Option.isNone_iff_eq_none.mp h
theorem g8 {t:Expr×List Expr} (h:sa e=some t):∃p,e=.Call t.1 t.2 [] p:=isO.to (p:=fun t=>∃p,e=.Call t.1 t.2 [] p) (by
 clear h
 induction e using Expr.casesOn with
 |Call f as kw p=>exact ifO.is fun q=>⟨p,by rw [aL q]⟩
 |_=>exact trivial) h
theorem pB {t:sk} (h:yT e=some t):e=.Call (.Attribute t.o t.a t.apos) t.as [] t.pos:=isO.to (p:=fun t=>e=.Call (.Attribute t.o t.a t.apos) t.as [] t.pos) (by
 clear h
 induction e using Expr.casesOn with
 |Call f as kw p=>exact ifO.is fun q=>by rw [aL q];rcases f with _|_<;>first|exact trivial|exact rfl
 |_=>exact trivial) h
theorem iR {t:Expr×Expr} (h:Be e=some t):∃p,e=.Subscript t.1 t.2 p:=isO.to (p:=fun t=>∃p,e=.Subscript t.1 t.2 p) (by clear h;rcases e with _|_<;>first|exact trivial|exact ⟨_,rfl⟩) h
theorem n8 {t:Option Expr×Option Expr×Option Expr} (h:Bf e=some t):∃p,e=.Slice t.1 t.2.1 t.2.2 p:=isO.to (p:=fun t=>∃p,e=.Slice t.1 t.2.1 t.2.2 p) (by clear h;rcases e with _|_<;>first|exact trivial|exact ⟨_,rfl⟩) h
theorem z7 {t:Expr×Operator×Expr} (h:GD e=some t):∃p,e=.BinOp t.1 t.2.1 t.2.2 p:=isO.to (p:=fun t=>∃p,e=.BinOp t.1 t.2.1 t.2.2 p) (by clear h;rcases e with _|_<;>first|exact trivial|exact ⟨_,rfl⟩) h
theorem sw {t:UnaryOp×Expr} (h:vUn e=some t):∃p,e=.UnaryOp t.1 t.2 p:=isO.to (p:=fun t=>∃p,e=.UnaryOp t.1 t.2 p) (by clear h;rcases e with _|_<;>first|exact trivial|exact ⟨_,rfl⟩) h
theorem tB {t:Expr×List CmpOp×List Expr} (h:Ed e=some t):∃p,e=.Compare t.1 t.2.1 t.2.2 p:=isO.to (p:=fun t=>∃p,e=.Compare t.1 t.2.1 t.2.2 p) (by clear h;rcases e with _|_<;>first|exact trivial|exact ⟨_,rfl⟩) h
theorem kQ {t:BoolOp×Expr×Expr} (h:yU e=some t):∃b r pos,e=.BoolOp t.1 (t.2.1::b::r) pos/\t.2.2=jx t.1 (b::r) pos:=isO.to (p:=fun t=>∃b r pos,e=.BoolOp t.1 (t.2.1::b::r) pos/\t.2.2=jx t.1 (b::r) pos) (by
 clear h
 induction e using Expr.casesOn with
 |BoolOp op es pos=>cases es with
  |nil=>exact trivial
  |cons a es=>rcases es with _|_<;>first|exact trivial|exact ⟨_,_,_,rfl,rfl⟩
 |_=>exact trivial) h
theorem Cj {t:Expr×Expr×Expr} (h:vIf e=some t):∃p,e=.IfExp t.1 t.2.1 t.2.2 p:=isO.to (p:=fun t=>∃p,e=.IfExp t.1 t.2.1 t.2.2 p) (by clear h;rcases e with _|_<;>first|exact trivial|exact ⟨_,rfl⟩) h
theorem fM {es:List Expr} (h:rT e=some es):∃k p,e=.Tuple es k p:=isO.to (p:=fun es=>∃k p,e=.Tuple es k p) (by clear h;rcases e with _|_<;>first|exact trivial|exact ⟨_,_,rfl⟩) h
theorem pC {es:List Expr} (h:By e=some es):∃p,e=.List es p:=isO.to (p:=fun es=>∃p,e=.List es p) (by clear h;rcases e with _|_<;>first|exact trivial|exact ⟨_,rfl⟩) h
theorem wt {t:List (Option Expr)×List Expr} (h:BA e=some t):∃p,e=.Dict t.1 t.2 p:=isO.to (p:=fun t=>∃p,e=.Dict t.1 t.2 p) (by clear h;rcases e with _|_<;>first|exact trivial|exact ⟨_,rfl⟩) h
theorem isO.bind {α β:Type} {p:β->Prop} {o:Option α} {f:α->Option β} (h:∀x,o=some x->isO p (f x)):isO p (o.bind f):=by
 rcases o with _|x
 ·exact trivial
 ·exact h x rfl
theorem pD {t:C8} (h:BB e=some t):∃px pos,e=.ListComp t.elt [⟨.Name t.x px,t.it,t.ifs,0⟩] t.sc pos:=isO.to (p:=fun t=>∃px pos,e=.ListComp t.elt [⟨.Name t.x px,t.it,t.ifs,0⟩] t.sc pos) (by
 clear h
 induction e using Expr.casesOn with
 |ListComp elt gs sc pos=>
  refine isO.bind fun g hg=>isO.bind fun x hx=>ifO.is fun hz=>?_
  obtain ⟨px,e⟩:=dX hx
  have ez:=eq_of_beq hz
  obtain ⟨gt,gi,gf,ga⟩:=g
  have e:gt=_:=e
  have ez:ga=0:=ez
  exact ⟨px,pos,by rw [one_of hg,e,ez]⟩
 |_=>exact trivial) h
theorem ul {l:List Expr} {o:Option Expr} (h:GR l=some o):l=o.toList:=isO.to (p:=fun o=>l=o.toList) (by
 clear h
 rcases l with _|⟨y,r⟩
 ·exact rfl
 ·exact ifO.is fun q=>by rw [aL q];rfl) h
theorem oi (h:pT e=true):∃k p1 p2,e=.UnaryOp .USub (.Constant (.int 1) k p1) p2:=by
 refine ac h fun t ht h=>?_
 refine a7 h fun h1 h=>?_
 refine ac h fun c hc h2=>?_
 obtain ⟨p,rfl⟩:=sw ht
 obtain ⟨k,p1,e2⟩:=da hc
 obtain ⟨t1,t2⟩:=t
 cases e2
 cases eq_of_beq h1
 cases eq_of_beq h2
 exact ⟨_,_,_,rfl⟩
end
section
variable {st:Stmt}
theorem wM {e:Expr} (h:BE st=some e):∃p,st=.Expr e p:=isO.to (p:=fun e=>∃p,st=.Expr e p) (by clear h;rcases st with _|_<;>first|exact trivial|exact ⟨_,rfl⟩) h
theorem fO {t:Expr×Expr} (h:yN st=some t):∃p,st=.Assign [t.1] t.2 p:=isO.to (p:=fun t=>∃p,st=.Assign [t.1] t.2 p) (by
 clear h
 induction st using PySem.Stmt.casesOn with
 |Assign ts v p=>cases ts with
  |nil=>exact trivial
  |cons a r=>rcases r with _|_<;>first|exact trivial|exact ⟨p,rfl⟩
 |_=>exact trivial) h
theorem nw {e:Option Expr} (h:DR st=some e):∃p,st=.Return e p:=isO.to (p:=fun e=>∃p,st=.Return e p) (by clear h;rcases st with _|_<;>first|exact trivial|exact ⟨_,rfl⟩) h
theorem CH {t:Expr×List Stmt×List Stmt} (h:sIf st=some t):∃p,st=.If t.1 t.2.1 t.2.2 p:=isO.to (p:=fun t=>∃p,st=.If t.1 t.2.1 t.2.2 p) (by clear h;rcases st with _|_<;>first|exact trivial|exact ⟨_,rfl⟩) h
theorem zw {t:Expr×List Stmt} (h:GF st=some t):∃p,st=.While t.1 t.2 [] p:=isO.to (p:=fun t=>∃p,st=.While t.1 t.2 [] p) (by
 clear h
 induction st using PySem.Stmt.casesOn with
 |While c b o p=>exact ifO.is fun q=>⟨p,by rw [aL q]⟩
 |_=>exact trivial) h
theorem ny {t:Expr×Expr×List Stmt} (h:DS st=some t):∃p,st=.For t.1 t.2.1 t.2.2 [] p:=isO.to (p:=fun t=>∃p,st=.For t.1 t.2.1 t.2.2 [] p) (by
 clear h
 induction st using PySem.Stmt.casesOn with
 |For c i b o p=>exact ifO.is fun q=>⟨p,by rw [aL q]⟩
 |_=>exact trivial) h
theorem mu {e:Expr} (h:sF st=some e):∃p,st=.Raise (some e) none p:=isO.to (p:=fun e=>∃p,st=.Raise (some e) none p) (by
 clear h
 induction st using PySem.Stmt.casesOn with
 |Raise a c p=>rcases a with _|_<;>rcases c with _|_<;>first|exact trivial|exact ⟨p,rfl⟩
 |_=>exact trivial) h
theorem zx {t:List Stmt×List ExceptHandler} (h:GG st=some t):∃p,st=.Try t.1 t.2 [] [] p/\t.2≠[]:=isO.to (p:=fun t=>∃p,st=.Try t.1 t.2 [] [] p/\t.2≠[]) (by
 clear h
 induction st using PySem.Stmt.casesOn with
 |Try b hs o f p=>
   refine ifO.is fun q=>?_
   refine a7 q fun q q2=>?_
   refine a7 q fun q q1=>?_
   rw [aL q,aL q1]
   exact ⟨p,rfl,fun (e:hs=[])=>by rw [e] at q2;injection q2⟩
 |_=>exact trivial) h
theorem wN (h:BG st=true):∃p,st=.Continue p:=isT.to (p:=∃p,st=.Continue p) (by clear h;rcases st with _|_<;>first|exact trivial|exact ⟨_,rfl⟩) h
end
theorem wr {hd:ExceptHandler} {t:C6} (h:Bz hd=some t):∃p k p1 p2 pos,hd=.ExceptHandler (some (.Name t.x p)) none [.Return (some (.Constant (.str t.t) k p1)) p2] pos:=by
 obtain ⟨ty,nm,b,pos⟩:=hd
 refine aJ h fun hn h=>?_
 refine a8 h fun x hx h=>?_
 obtain ⟨z,hz,rfl⟩:=bQ h
 obtain ⟨y,rfl,hx⟩:=kO hx
 obtain ⟨p,rfl⟩:=dX hx
 rcases b with _|⟨st,r⟩
 ·injection hz
 ·refine aJ hz fun hr hz=>?_
  refine a8 hz fun o ho z1=>?_
  refine a8 z1 fun e he z2=>?_
  refine a8 z2 fun c hc z3=>?_
  obtain ⟨p2,e2⟩:=nw ho
  obtain ⟨k,p1,e3⟩:=da hc
  rw [e2,he,e3,nP z3,aL hr,cG hn]
  exact ⟨_,_,_,_,_,rfl⟩
theorem D1 {a b:TY} (h:(a.ix==b.ix)=true):a=b:=isT.to (by clear h;rcases a with _|_<;>rcases b with _|_<;>first|exact trivial|exact rfl) h
theorem A5 {a b:BF} (h:(a.ix==b.ix)=true):a=b:=isT.to (by clear h;rcases a with _|_<;>rcases b with _|_<;>first|exact trivial|exact rfl) h
theorem V.fn_of {v:V} {a:Addr} (h:v.fn?=some a):v=.fn a:=isO.to (p:=fun b=>v=.fn b) (by clear h;rcases v with _|_<;>first|exact trivial|exact rfl) h
theorem V.cls_of {v:V} {a:Addr} (h:v.cls?=some a):v=.cls a:=isO.to (p:=fun b=>v=.cls b) (by clear h;rcases v with _|_<;>first|exact trivial|exact rfl) h
theorem V.bt_of {v:V} {a:TY} (h:v.bt?=some a):v=.bt a:=isO.to (p:=fun b=>v=.bt b) (by clear h;rcases v with _|_<;>first|exact trivial|exact rfl) h
theorem V.bf_of {v:V} {a:BF} (h:v.bf?=some a):v=.bf a:=isO.to (p:=fun b=>v=.bf b) (by clear h;rcases v with _|_<;>first|exact trivial|exact rfl) h
mutual
theorem sY (v w:V) (h:eqD v w=true):w=v:=by
 match v with
 |.none=>exact V.isNone_of h
 |.bool b=>exact V.bool_of (eq_of_beq h)
 |.int b=>exact V.int_of (eq_of_beq h)
 |.str b=>exact V.str_of (eq_of_beq h)
 |.tup xs=>obtain ⟨ys,e,h⟩:=pj h;rw [V.tup_of e,uH xs ys h]
 |.fn b=>exact V.fn_of (eq_of_beq h)
 |.cls b=>exact V.cls_of (eq_of_beq h)
 |.bt b=>obtain ⟨c,e,h⟩:=pj h;rw [V.bt_of e,D1 h]
 |.bf b=>obtain ⟨c,e,h⟩:=pj h;rw [V.bf_of e,A5 h]
theorem uH (vs ws:List V) (h:EV vs ws=true):ws=vs:=by
 match vs,ws with
 |[],ws=>exact aL h
 |v::vs,[]=>injection h
 |v::vs,w::ws=>
  refine a7 h fun a b=>?_
  rw [sY v w a,uH vs ws b]
end
end
section
open W PyProof.Rows
theorem CV.id_inj {C:CV} {y z:Str} {x:Nat} (h1:C.id y=some x) (h2:C.id z=some x):y=z:=by
 unfold CV.id at h1 h2
 have e1:=List.idxOf?_eq_some_iff.mp h1
 have e2:=List.idxOf?_eq_some_iff.mp h2
 obtain ⟨h,e1,_⟩:=e1
 obtain ⟨_,e2,_⟩:=e2
 exact e1.symm.trans e2
section
variable (I5:Program) (w:World) (C:CV) (P:PT) (B:Heap)
def FnD (ps:List Nat) (ds:List V) (body:List Stmt) (scope:Scope) (d:FuncData):Prop:=∃name qual params dV kV doc pm cdv ct,∃an,d=fnOf name qual params body scope dV kV doc pm an cdv ct/\B.CodeRec cdv qual/\
  td C params=some ps/\scope.kind=.function/\scope.isCoroutine=false/\scope.isGenerator=false/\
  (∀x∈params.args,scope.names.lookup x.arg=some .local\/scope.names.lookup x.arg=some .cell)/\(scope.names.map (·.1)).Nodup/\(∀y∈scope.names,y.2≠.free)/\ps.Nodup/\
  (match ds with|[]=>dV=.none|l=>∃T ys,dV=.ref T/\gM B T ys/\aj [] B l ys/\l.length<=ps.length)
def wi (f:Addr) (ps:List Nat) (ds:List V) (body:List Stmt) (scope:Scope):Prop:=∃o d,B.get? f=some o/\o.data=.func d/\FnD C B ps ds body scope d
def Hf (a:Addr) (fi:aA):Prop:=∃body scope,wi C B a fi.params fi.dflts body scope/\gG C scope fi.body body=true
noncomputable def yY (K:Frag) (C:CV) (c:Addr) (ci:iK):Bool:=
 plainOver K c&&hasDictIn K c&&plainGet K c "" && findIn K (.ref c) "__setattr__" == some (some (.builtin "object.__setattr__"))&&makesIn K c&&
 findIn K (.ref c) "__init__" == some (some (.ref ci.init))&&isFn K (.ref ci.init)&&
 (List.range C.ids.length).all fun i=>match C.ids[i]? with
  |some y=>takerIn K c y==some none&&(match ci.meths.lookup i with
   |some f=>findIn K (.ref c) y==some (some (.ref f))&&isFn K (.ref f)
   |none=>findIn K (.ref c) y==some none)
  |none=>true
noncomputable def bD:List Str:=["append","extend","pop","get","split","join","replace","index"]
structure aU (K:Frag):Prop where
 meths:C.ids.take 8=bD
 frag:K.In B
 ids:C.ids.length<=1000
 cls:∀c ci,P.cl.lookup c=some ci->ci.exc=false->yY K C c ci=true
 nolimit:B.NoLimit
 sys:(B.get? sysModules).isSome=true
 glob:∃mg mb,B.Ns mainGlobals mg/\B.Ns builtinsNs mb/\∀x v,C.gl.lookup x=some v->(x==("__debug__" : Str))=false/\∃z,(mg x=some z\/(mg x=none/\mb x=some z))/\am [] B v z
 names:∀y x,C.id y=some x->(y==("__debug__" : Str))=false/\(y==("__classdict__" : Str))=false
 fn:∀a fi,P.fn.lookup a=some fi->Hf C B a fi
end
section
variable {I5:Program} {w:World} {C:CV} {P:PT} {B:Heap} {fr:List Env} {own:Addr->Prop} {A:Around} {as as':AS} {s s':Shared} {hh hh':H} {env:Env} {ρ:Loc}
structure aP (I5:Program) (w:World) (C:CV) (B:Heap) (fr:List Env) (as:AS) (hh:H) (s:Shared):Prop where
 R:bW I5 w C B as hh s.heap
 F:lF B fr s.heap
theorem aI.here {own:Addr->Prop} (p:aI I5 w C B fr own as s as' hh' s'):aP I5 w C B fr as' hh' s':=⟨p.rel,p.frs⟩
theorem am.step {own:Addr->Prop} {v:V} {x:Value} (R:bW I5 w C B as hh s.heap) (p:dh own as s.heap as' s'.heap) (ho:∀a o,own a->s.heap.get? a=some o->¬solid o) (h:am as s.heap v x):am as' s'.heap v x:=
 (am.mono' p.pre fun a o e k=>p.keepN e (R.offSolid e k) (fun q=>ho a o q e k) k.hard).1 h
theorem aj.step {own:Addr->Prop} {v:List V} {x:List Value} (R:bW I5 w C B as hh s.heap) (p:dh own as s.heap as' s'.heap) (ho:∀a o,own a->s.heap.get? a=some o->¬solid o) (h:aj as s.heap v x):aj as' s'.heap v x:=
 (am.mono' p.pre fun a o e k=>p.keepN e (R.offSolid e k) (fun q=>ho a o q e k) k.hard).2 h
theorem am.post {v:V} {x:Value} (R:bW I5 w C B as hh s.heap) (p:aI I5 w C B fr ay as s as' hh' s') (h:am as s.heap v x):am as' s'.heap v x:=h.step R p.step fun Z Z q=>q.elim
theorem aj.post {v:List V} {x:List Value} (R:bW I5 w C B as hh s.heap) (p:aI I5 w C B fr ay as s as' hh' s') (h:aj as s.heap v x):aj as' s'.heap v x:=h.step R p.step fun Z Z q=>q.elim
theorem am.static {v:V} {x:Value} (h:am [] B v x) (R:bW I5 w C B as hh s.heap):am as s.heap v x:=(am.mono' (as:=[]) ⟨as,rfl⟩ fun a o e Z=>R.base a o e).1 h
theorem aF.post (N:aF C env ρ as s.heap) (R:bW I5 w C B as hh s.heap) (p:aI I5 w C B fr ay as s as' hh' s'):aF C env ρ as' s'.heap:=by
 obtain ⟨m,hns,hl⟩:=N.loc
 have keep:∀a o,s.heap.get? a=some o->¬foot as a->(∀vs,o.data≠.fields vs)->∃sl,s'.heap.get? a=some { o with slots:=sl }:=fun a o e f hx=>p.step.keepU e f id hx
 have cellOff:∀{a o},s.heap.get? a=some o->(∃z,o.data=.cell z)->¬foot as a:=fun {a o} e d f=>R.noCell f e d
 refine ⟨N.kind,N.glob,N.blt,fun f=>?_,⟨m,?_,fun y x v h1 h2 h3=>?_⟩,fun y x v h1 h2 h3=>?_,fun y h1=>?_,N.apart⟩
 ·obtain ⟨r,rfl,hr⟩:=p.step.ext
  rcases bE.mp f with f|⟨q,hq,e⟩
  ·exact N.off f
  ·obtain ⟨o,_,_,g,_⟩:=hns
   rcases e with e|e
   ·rw [e,(hr q hq).1.1] at g;injection g
   ·rw [e,(hr q hq).1.2] at g;injection g
 ·obtain ⟨o,es,ep,g,d,r⟩:=hns
  obtain ⟨sl,g'⟩:=keep _ _ g N.off fun vs q=>by rw [d] at q;injection q
  exact ⟨_,es,ep,g',d,r⟩
 ·obtain ⟨z,e,rv⟩:=hl y x v h1 h2 h3
  exact ⟨z,e,rv.post R p⟩
 ·obtain ⟨c,o,z,e,g,d,rv⟩:=N.cell y x v h1 h2 h3
  obtain ⟨sl,g'⟩:=keep _ _ g (cellOff g ⟨_,d⟩) fun vs q=>by rw [d] at q;injection q
  exact ⟨c,_,z,e,g',d,rv.post R p⟩
 ·obtain ⟨c,o,z,e,g,d⟩:=N.cellAt y h1
  obtain ⟨sl,g'⟩:=keep _ _ g (cellOff g ⟨_,d⟩) fun vs q=>by rw [d] at q;injection q
  exact ⟨c,_,z,e,g',d⟩
theorem Sim.run {α β α' β':Type} {RV:AS->Heap->α->β->Prop} {RV':AS->Heap->α'->β'->Prop} {t:Sem β} {m:R α} {f:α->H->R α'} {Q:β'->Shared->Prop} {E:Value->Shared->Prop} {K:β->Shared->Prop}
  (h0:aP I5 w C B fr as hh s) (h1:Sim I5 w C B RV fr own A t m as s) (h:ai I5 w C B RV' fr own as s (m.bd f) Q E)
  (h2:∀v hh' as' s' x,m=.ok v hh'->aI I5 w C B fr own as s as' hh' s'->RV as' s'.heap v x->ai I5 w C B RV' fr own as' s' (f v hh') Q E->K x s'):wpAny (model I5 w) A t K E s:=by
 rcases m with ⟨v,hh'⟩|⟨c,hh'⟩|_
 ·refine h1 _ _ fun as' s' x p rv=>h2 v hh' as' s' x rfl p rv ?_
  have h:ai I5 w C B RV' fr own as s (f v hh') Q E:=h
  revert h
  rcases f v hh' with ⟨v',h3⟩|⟨c,h3⟩|_
  ·exact fun h as'' s'' x' P' rv'=>h _ _ _ (p.trans P') rv'
  ·exact fun h s'' ev e as'' B' T=>h _ _ _ _ _ (T.after h0.F (fun a ha=>h0.R.frame_off h0.F ha) p)
  ·exact id
 ·exact h1 _ _ h
 ·exact h.elim
theorem ai.here {α β:Type} {RV:AS->Heap->α->β->Prop} {v:α} {x:β} {Q:β->Shared->Prop} {E:Value->Shared->Prop} {tk:Nat} (h0:aP I5 w C B fr as hh s) (h:ai I5 w C B RV fr own as s (.ok v hh) Q E)
  (rv:RV as s.heap v x):Q x { s with toks:=tk }:=h as _ x ⟨dh.refl ..,h0.R,h0.F,rfl,rfl⟩ rv
theorem oj {ks:List FK} {l:List Value} (r:ItemsAre (eG I5 w) ks l):ku l=true:=by
 cases r with
 |nil=>rfl
 |cons r1 r=>cases r with
  |nil=>rfl
  |cons r2 r=>cases r with
   |nil=>rcases FK.is_shape r1 with ⟨_,_,_,rfl⟩|⟨_,_,_,rfl⟩<;>rfl
   |cons r3 r=>rfl
theorem bi.move {h h':Heap} {es:List (Key×V)} {l:List (Str×Value)} (mv:∀{v x},am as h v x->am as' h' v x) (S:bi as h es l):bi as' h' es l:=by
 induction S with
 |nil=>exact .nil
 |cons rv _ ih=>exact .cons (mv rv) ih
theorem di.move {h h':Heap} {es:List (Key×V)} {l:List (List FK×Addr×Value)} (mv:∀{v x},am as h v x->am as' h' v x) (S:di as h es l):di as' h' es l:=by
 induction S with
 |nil=>exact .nil
 |cons rv _ ih=>exact .cons (mv rv) ih
theorem qq.move {h h':Heap} {o:O} {p:Addr×Addr} (q:qq I5 w C as h o p) (k:∀a ob,a=p.1\/a=p.2->h.get? a=some ob->h'.get? a=some ob)
  (mv:∀{v x},am as h v x->am as' h' v x) (mvs:∀{v x},aj as h v x->aj as' h' v x) (tk:∀a ob,ob.cls=.type "tuple" -> (∃xs n,ob.data=.seq xs n/\ku xs.toList=true)->h.get? a=some ob->h'.get? a=some ob):qq I5 w C as' h' o p:=by
 rcases o with xs|es|⟨c,fs⟩
 ·obtain ⟨e,ys,n,g,r⟩:=q;exact ⟨e,ys,n,k _ _ (.inl rfl) g,mvs r⟩
 ·obtain ⟨e,q⟩:=q
  refine ⟨e,?_⟩
  rcases q with ⟨kvs,⟨o,es',ep,g,r⟩,S⟩|⟨rows,⟨o,es',ep,g,c,d,l,is,nd⟩,T⟩
  ·exact .inl ⟨kvs,⟨o,es',ep,k _ _ (.inl rfl) g,r⟩,S.move mv⟩
  ·refine .inr ⟨rows,⟨o,es',ep,k _ _ (.inl rfl) g,c,d,l,fun x hx=>?_,nd⟩,T.move mv⟩
   obtain ⟨o',items,n,g',c',r'⟩:=is x hx
   exact ⟨o',items,n,tk _ _ c' ⟨_,_,r'.1,oj r'.2⟩ g',c',r'⟩
 ·obtain ⟨e,g,⟨o2,g2,c2⟩,m,hn,hwi,hf⟩:=q
  refine ⟨e,k _ _ (.inl rfl) g,⟨o2,k _ _ (.inr rfl) g2,c2⟩,m,?_,hwi,fun x y hxy=>?_⟩
  ·obtain ⟨o,es,ep,g3,r⟩:=hn;exact ⟨o,es,ep,k _ _ (.inr rfl) g3,r⟩
  ·have:=hf x y hxy
   rcases q:fs.lookup x with _|v
   ·rw [q] at this;exact this
   ·rw [q] at this;obtain ⟨z,e,rv⟩:=this;exact ⟨z,e,mv rv⟩
theorem bW.grow {h h':Heap} (R:bW I5 w C B as hh h) (k:∀a o,h.get? a=some o->h'.get? a=some o):bW I5 w C B as hh h':=
 ⟨fun a o e=>k a o (R.base a o e),R.len,R.new,R.apart,fun i o p h1 h2=>(R.obj i o p h1 h2).move (fun a ob Z e=>k a ob e) (am.mono' (as':=as) ⟨[],by simp⟩ fun a o e Z=>k a o e).1
  (am.mono' (as':=as) ⟨[],by simp⟩ fun a o e Z=>k a o e).2 fun a ob Z Z e=>k a ob e⟩
theorem lF.grow {h h':Heap} (F:lF B fr h) (k:∀a o,h.get? a=some o->h'.get? a=some o):lF B fr h':=
 ⟨F.1.of_keeps fun b o e Z=>⟨o,k b o e,rfl⟩,fun env he=>let ⟨L,o,e,g,c⟩:=F.2 env he;⟨L,o,e,k _ _ g,c⟩⟩
theorem aI.grow {s':Shared} (h0:aP I5 w C B fr as hh s) (k:∀a o,s.heap.get? a=some o->s'.heap.get? a=some o) (hg:s'.gens=s.gens) (ho:s'.os=s.os):aI I5 w C B fr own as s as hh s':=
 ⟨dh.grow _ _ k,h0.R.grow k,h0.F.grow k,hg,ho⟩
theorem ai.grown {α β:Type} {RV:AS->Heap->α->β->Prop} {v:α} {x:β} {Q:β->Shared->Prop} {E:Value->Shared->Prop} {h':Heap} {tk:Nat} (h0:aP I5 w C B fr as hh s) (h:ai I5 w C B RV fr own as s (.ok v hh) Q E)
  (k:∀a o,s.heap.get? a=some o->h'.get? a=some o) (rv:RV as h' v x):Q x { s with heap:=h',toks:=tk }:=
 h as { s with heap:=h',toks:=tk } x (aI.grow h0 k rfl rfl) rv
theorem bW.add {h h':Heap} {o:O} {p:Addr×Addr} (R:bW I5 w C B as hh h) (k:∀a o,h.get? a=some o->h'.get? a=some o) (h1:h.get? p.1=none) (h2:h.get? p.2=none)
  (q:qq I5 w C (as++[p]) h' o p):bW I5 w C B (as++[p]) (hh++[o]) h':=by
 have nb:∀{a},h.get? a=none->B.get? a=none:=fun {a} e=>by
  rcases z:B.get? a with _|o
  ·rfl
  ·have:=R.base _ _ z;rw [e] at this;injection this
 have alive:∀q∈as,(h.get? q.1).isSome=true/\(h.get? q.2).isSome=true:=fun q hq=>by
  obtain ⟨o1,e1,_⟩:=R.kind ⟨q,hq,.inl rfl⟩
  obtain ⟨o2,e2,_⟩:=R.kind ⟨q,hq,.inr rfl⟩
  rw [e1,e2];exact ⟨rfl,rfl⟩
 have apart:∀q∈as,z6 q p:=fun q hq=>by
  obtain ⟨a1,a2⟩:=alive q hq
  refine ⟨fun e=>?_,fun e=>?_,fun e=>?_,fun e=>?_⟩
  ·rw [e,h1] at a1;injection a1
  ·rw [e,h2] at a1;injection a1
  ·rw [e,h1] at a2;injection a2
  ·rw [e,h2] at a2;injection a2
 have at_:∀{i:Nat} {q},(as++[p])[i]?=some q->(as[i]?=some q/\i < as.length)\/(i=as.length/\q=p):=fun {i q} e=>by
  rcases Nat.lt_trichotomy i as.length with c|c|c
  ·exact .inl ⟨by rwa [HK c] at e,c⟩
  ·subst c;right;simpa [eq_comm] using e
  ·rw [HQ (by simp;omega)] at e;injection e
 refine ⟨fun a o e=>k a o (R.base a o e),by simp [R.len],fun q hq=>?_,fun i j a b ha hb hij=>?_,fun i o' p' ho hp=>?_⟩
 ·rcases List.mem_append.mp hq with hq|hq
  ·exact R.new q hq
  ·obtain rfl:=List.mem_singleton.mp hq;exact ⟨nb h1,nb h2⟩
 ·rcases at_ ha with ⟨ha',_⟩|⟨ha',rfl⟩<;>rcases at_ hb with ⟨hb',_⟩|⟨hb',rfl⟩
  ·exact R.apart i j a b ha' hb' hij
  ·exact apart a (we ha')
  ·obtain ⟨c1,c2,c3,c4⟩:=apart b (we hb')
   exact ⟨c1.symm,c3.symm,c2.symm,c4.symm⟩
  ·exact absurd (ha'.trans hb'.symm) hij
 ·rcases at_ hp with ⟨hp,c⟩|⟨c,rfl⟩
  ·rw [HK (by rw [<-R.len];exact c)] at ho
   exact (R.obj i o' p' ho hp).move (fun a ob Z e=>k a ob e) (am.mono' (as':=as++[p]) ⟨[p],rfl⟩ fun a o e Z=>k a o e).1 (am.mono' (as':=as++[p]) ⟨[p],rfl⟩ fun a o e Z=>k a o e).2 fun a ob Z Z e=>k a ob e
  ·subst c
   rw [R.len,List.getElem?_append_right (HM _),Nat.sub_self] at ho
   (injection ho with ho;subst ho)
   exact q
theorem aI.add {s':Shared} {o:O} {p:Addr×Addr} (h0:aP I5 w C B fr as hh s) (k:∀a o,s.heap.get? a=some o->s'.heap.get? a=some o) (h1:s.heap.get? p.1=none) (h2:s.heap.get? p.2=none)
  (q:qq I5 w C (as++[p]) s'.heap o p) (hg:s'.gens=s.gens) (ho:s'.os=s.os) (no:¬own p.1/\¬own p.2):aI I5 w C B fr own as s (as++[p]) (hh++[o]) s':=
 ⟨⟨⟨[p],rfl,fun q hq=>by obtain rfl:=List.mem_singleton.mp hq;exact ⟨⟨h1,h2⟩,no⟩⟩,fun a o e Z Z Z=>⟨o,k a o e,.refl o⟩,fun a e Z=>by
   rcases q:s.heap.get? a with _|o
   ·rw [q] at e;injection e
   ·rw [k a o q];rfl,fun a Z=>.keep fun o e=>k a o e⟩,h0.R.add k h1 h2 q,h0.F.grow k,hg,ho⟩
theorem fc {h:Heap} (R:as.length=hh.length) (p:Addr×Addr):am (as++[p]) h (.ref hh.length) (.ref p.1):=.ref (by rw [<-R];simp)
theorem bW.turn {h h':Heap} {o:O} {p:Addr×Addr} {n:Nat} (R:bW I5 w C B as hh h) (hn:as[n]?=some p) (k:∀a ob,a≠p.1->a≠p.2->h.get? a=some ob->h'.get? a=some ob)
  (q:qq I5 w C as h' o p):bW I5 w C B as (hh.set n o) h':=by
 have fp:foot as p.1/\foot as p.2:=⟨⟨p,we hn,.inl rfl⟩,⟨p,we hn,.inr rfl⟩⟩
 have ne:∀a ob,h.get? a=some ob->solid ob->a≠p.1/\a≠p.2:=fun a ob e sd=>by
  have off:¬foot as a:=R.offSolid e sd
  exact ⟨fun e=>off (e▸fp.1),fun e=>off (e▸fp.2)⟩
 have nbase:∀a o,B.get? a=some o->a≠p.1/\a≠p.2:=fun a o e=>by
  obtain ⟨n1,n2⟩:=R.new p (we hn)
  exact ⟨fun q=>(by rw [q,n1] at e;injection e),fun q=>(by rw [q,n2] at e;injection e)⟩
 refine ⟨fun a o e=>k a o (nbase a o e).1 (nbase a o e).2 (R.base a o e),by simp [R.len],R.new,R.apart,fun i o' p' ho hp=>?_⟩
 by_cases hi:i=n
 ·subst hi
  obtain rfl:p=p':=be (hn.symm.trans hp)
  rw [List.getElem?_set_self (by rw [<-R.len];exact (List.getElem?_eq_some_iff.mp hn).1)] at ho
  (injection ho with ho;subst ho)
  exact q
 ·rw [List.getElem?_set_ne (Ne.symm hi)] at ho
  obtain ⟨c1,c2,c3,c4⟩:=R.apart i n p' p hp hn hi
  refine (R.obj i o' p' ho hp).move (fun a ob e g=>?_) (am.mono' (as':=as) ⟨[],by simp⟩ fun a o e sd=>k a o (ne a o e sd).1 (ne a o e sd).2 e).1
   (am.mono' (as':=as) ⟨[],by simp⟩ fun a o e sd=>k a o (ne a o e sd).1 (ne a o e sd).2 e).2 fun a ob c d g=>k a ob (ne a ob g (.inl ⟨c,d⟩)).1 (ne a ob g (.inl ⟨c,d⟩)).2 g
  rcases e with rfl|rfl
  ·exact k _ _ c1 c2 g
  ·exact k _ _ c3 c4 g
theorem aI.turn {s':Shared} {o:O} {p:Addr×Addr} {n:Nat} (h0:aP I5 w C B fr as hh s) (hn:as[n]?=some p) (k:∀a ob,a≠p.1->a≠p.2->s.heap.get? a=some ob->s'.heap.get? a=some ob)
  (live:(s'.heap.get? p.1).isSome=true/\(s'.heap.get? p.2).isSome=true) (he:dA s.heap s'.heap p.1/\dA s.heap s'.heap p.2)
  (q:qq I5 w C as s'.heap o p) (hg:s'.gens=s.gens) (ho:s'.os=s.os):aI I5 w C B fr own as s as (hh.set n o) s':=by
 have fp:foot as p.1/\foot as p.2:=⟨⟨p,we hn,.inl rfl⟩,⟨p,we hn,.inr rfl⟩⟩
 have kk:∀a ob,¬foot as a->s.heap.get? a=some ob->s'.heap.get? a=some ob:=fun a ob f e=>k a ob (fun q=>f (q▸fp.1)) (fun q=>f (q▸fp.2)) e
 refine ⟨⟨⟨[],by simp,fun Z hp=>nomatch hp⟩,fun a ob e f Z Z=>⟨ob,kk a ob f e,.refl ob⟩,fun a e Z=>?_,fun a Z=>?_⟩,h0.R.turn hn k q,⟨?_,?_⟩,hg,ho⟩
 ·by_cases h1:a=p.1
  ·rw [h1];exact live.1
  ·by_cases h2:a=p.2
   ·rw [h2];exact live.2
   ·rcases z:s.heap.get? a with _|ob
    ·rw [z] at e;injection e
    ·rw [k a ob h1 h2 z];rfl
 ·by_cases h1:a=p.1
  ·rw [h1];exact he.1
  ·by_cases h2:a=p.2
   ·rw [h2];exact he.2
   ·exact .keep fun o e=>k a o h1 h2 e
 ·
  have:=h0.F.1
  have key:∀l:List Env,(∀e∈l,e∈fr)->s.heap.FunFrames B l->s'.heap.FunFrames B l:=by
   intro l
   induction l with
   |nil=>intro _ _;trivial
   |cons e l ih=>
    rintro hl ⟨hk,⟨L,ob,hf,hb,g,d⟩,r⟩
    exact ⟨hk,⟨L,ob,hf,hb,kk L ob (h0.R.frame_off h0.F ⟨e,hl e (.head _),hf⟩) g,d⟩,ih (fun e' he=>hl e' (.tail _ he)) r⟩
  exact key fr (fun Z h=>h) this
 ·intro env he
  obtain ⟨L,ob,hf,g,c⟩:=h0.F.2 env he
  exact ⟨L,ob,hf,kk L ob (h0.R.frame_off h0.F ⟨env,he,hf⟩) g,c⟩
end
end
section
open W PyProof.Rows
structure AOK (A:Around) (fr:List Env) (n:Nat):Prop where
 frames:A.frames=some fr
 handled:A.handled=none
 depth:A.depth+4*n < 900
 units:A.units+24*n < 9000
section
variable {I5:Program} {w:World} {C:CV} {P:PT} {K:Frag} {B:Heap} {fr:List Env} {own:Addr->Prop} {A:Around} {as as':AS} {s s':Shared} {hh hh':H} {env:Env} {ρ:Loc} {cf:V->List V->PM V} {n:Nat}
section
variable {α β γ:Type} {RV:AS->Heap->α->β->Prop} {Q:β->Shared->Prop} {E:Value->Shared->Prop} {G:Prop}
theorem ai.opt {o:Option γ} {f:γ->R α} (h:ai I5 w C B RV fr own as s (bq o f) Q E) (k:∀x,o=some x->ai I5 w C B RV fr own as s (f x) Q E->G):G:=by
 rcases o with _|x
 ·exact h.elim
 ·exact k x rfl h
theorem ai.ask {o:Option α} (h:ai I5 w C B RV fr own as s (eB o hh) Q E) (k:∀x,o=some x->ai I5 w C B RV fr own as s (.ok x hh) Q E->G):G:=by
 rcases o with _|x
 ·exact h.elim
 ·exact k x rfl h
theorem ai.ifr {b:Bool} {m:R α} (h:ai I5 w C B RV fr own as s (ifR b m) Q E) (k:b=true->ai I5 w C B RV fr own as s m Q E->G):G:=by
 rcases b with _|_
 ·exact h.elim
 ·exact k rfl h
theorem ai.now {v:α} {x:β} (h:ai I5 w C B RV fr own as s (.ok v hh) Q E) (h0:aP I5 w C B fr as hh s) (rv:RV as s.heap v x):Q x s:=h as s x ⟨dh.refl ..,h0.R,h0.F,rfl,rfl⟩ rv
theorem ai.after {m:R α} (h0:aP I5 w C B fr as hh s) (p:aI I5 w C B fr own as s as' hh' s') (h:ai I5 w C B RV fr own as s m Q E):ai I5 w C B RV fr own as' s' m Q E:=by
 rcases m with ⟨v,h3⟩|⟨c,h3⟩|_
 ·exact fun as'' s'' x P' rv=>h _ _ _ (p.trans P') rv
 ·exact fun s'' ev e as'' B' T=>h _ _ _ _ _ (T.after h0.F (fun a ha=>h0.R.frame_off h0.F ha) p)
 ·exact h
end
theorem Sim.runB {α' β':Type} {RV':AS->Heap->α'->β'->Prop} {t:Sem Bool} {m:R Bool} {f g:H->R α'} {Q:β'->Shared->Prop} {E:Value->Shared->Prop} {K:Bool->Shared->Prop} (h0:aP I5 w C B fr as hh s)
  (h1:Sim I5 w C B (fun _ _ (a b:Bool)=>a=b) fr own A t m as s) (h:ai I5 w C B RV' fr own as s (bB m f g) Q E)
  (h2:∀q hh' as' s',aI I5 w C B fr own as s as' hh' s'->ai I5 w C B RV' fr own as' s' (cond q (f hh') (g hh')) Q E->K q s'):wpAny (model I5 w) A t K E s:=
 Sim.run h0 h1 h fun v hh' as' s' x Z p rv h=>(show v=x from rv)▸h2 v hh' as' s' p h
variable (I5 w C P B fr A env ρ cf)
abbrev bh (e:Expr) (p:PE):Prop:=∀as hh s,aP I5 w C B fr as hh s->aF C env ρ as s.heap->Sim I5 w C B am fr ay A (eval e env) (ev P cf p ρ hh) as s
abbrev cg (e:Expr) (p:PE):Prop:=∀as hh s,aP I5 w C B fr as hh s->aF C env ρ as s.heap->Sim I5 w C B (fun _ _ (a b:Bool)=>a=b) fr ay A (isTrue e env (eval e env)) (evT P cf p ρ hh) as s
variable {I5 w C P B fr A env ρ cf}
theorem CQ {k:Option NameKind} (h:sg k=true):k=some .local\/k=some .cell\/k=some .free:=by
 unfold sg at h
 rcases Bool.or_eq_true_iff.mp h with h|h
 ·rcases Bool.or_eq_true_iff.mp h with h|h
  ·exact .inl (eq_of_beq h)
  ·exact .inr (.inl (eq_of_beq h))
 ·exact .inr (.inr (eq_of_beq h))
theorem oW {y:Str} {x:Nat} {pos:Pos} (FX:aU C P B K) (hi:C.id y=some x) (hk:sg (env.scope.names.lookup y)=true):bh I5 w C P B fr A env ρ cf (.Name y pos) (.loc x):=by
 intro as hh s h0 N Q E h
 refine h.ask fun v hl h=>?_
 rcases CQ hk with h1|h1|h1
 ·obtain ⟨m,hns,hloc⟩:=N.loc
  obtain ⟨z,e,rv⟩:=hloc y x v hi h1 hl
  exact wpAny_Name (wpAny_loadName_local N.kind h1 hns e (h.now h0 rv)) (FX.names y x hi).1
 ·obtain ⟨c,o,z,e,g,d,rv⟩:=N.cell y x v hi (.inl h1) hl
  exact wpAny_Name (wpAny_loadName_cell N.kind h1 e ⟨o,g,d⟩ (h.now h0 rv)) (FX.names y x hi).1
 ·obtain ⟨c,o,z,e,g,d,rv⟩:=N.cell y x v hi (.inr h1) hl
  exact wpAny_Name (wpAny_loadName_free N.kind h1 e ⟨o,g,d⟩ (h.now h0 rv) (FX.names y x hi).2) (FX.names y x hi).1
theorem AF {y:Str} {v:V} {pos:Pos} (FX:aU C P B K) (h1:env.scope.names.lookup y=some .globalImplicit) (hg:C.gl.lookup y=some v):bh I5 w C P B fr A env ρ cf (.Name y pos) (.stat v):=by
 intro as hh s h0 N Q E h
 obtain ⟨mg,mb,G,Bl,hgl⟩:=FX.glob
 obtain ⟨hd,z,hz,rv⟩:=hgl y v hg
 have q:=ai.now (x:=z) h h0 (rv.static h0.R)
 have G':s.heap.Ns env.globals mg:=by rw [N.glob];exact G.keeps h0.R.base
 have B':s.heap.Ns env.builtins mb:=by rw [N.blt];exact Bl.keeps h0.R.base
 rcases hz with hz|⟨hz,hz2⟩
 ·exact Calls.Name_function_global N.kind h1 (Calls.loadGlobal_global G' hz q) hd
 ·exact Calls.Name_function_global N.kind h1 (Calls.loadGlobal_builtin G' hz B' hz2 q) hd
theorem AG {k:Nat} {pos:Pos}:bh I5 w C P B fr A env ρ cf (.Constant .none k pos) .none:=fun as hh s h0 N Q E h=>wpAny_pure (ai.now h h0 .none)
theorem uD {b:Bool} {k:Nat} {pos:Pos}:bh I5 w C P B fr A env ρ cf (.Constant (.bool b) k pos) (.bool b):=fun as hh s h0 N Q E h=>wpAny_pure (ai.now h h0 (.bool b))
theorem Dj {i:Int} {k:Nat} {pos:Pos}:bh I5 w C P B fr A env ρ cf (.Constant (.int i) k pos) (.int i):=fun as hh s h0 N Q E h=>wpAny_Constant_int (ai.here h0 h (.int _ _))
theorem Df {z:Str} {k:Nat} {pos:Pos}:bh I5 w C P B fr A env ρ cf (.Constant (.str z) k pos) (.str z.cps.toList):=fun as hh s h0 N Q E h=>Calls.Constant_str (ai.here h0 h (.str _ _))
end
end
section
open W PyProof.Rows SeqAt
section
variable {I5:Program} {w:World} {C:CV} {P:PT} {B:Heap} {fr:List Env} {own:Addr->Prop} {A:Around} {E:Value->Shared->Prop} {as as':AS} {s s':Shared} {hh hh':H} {env:Env} {ρ:Loc} {cf:V->List V->PM V} {n:Nat}
theorem tF (a b:List Nat):(ah a==ah b)=az a b:=by
 unfold az
 by_cases h:a=b
 ·subst h;simp
 ·rw [decide_eq_false h,beq_eq_false_iff_ne];exact fun e=>h (db e)
theorem aj.length {h:Heap}:∀{l:List V} {m:List Value},aj as h l m->l.length=m.length
 |[],_,r=>by rw [show _=[] from r.inv];rfl
 |_::l,_,r=>by
  obtain ⟨y,ys,rfl,_,r⟩:=r.inv
  exact congrArg (·+1) r.length
theorem aj.get {h:Heap}:∀{l:List V} {m:List Value} (r:aj as h l m) (i:Nat) (h1:i < l.length) (h2:i < m.length),am as h l[i] m[i]
 |[],_,_,_,h1,_=>absurd h1 (Nat.not_lt_zero _)
 |_::l,_,r,i,h1,h2=>by
  obtain ⟨y,ys,rfl,q,r⟩:=r.inv
  rcases i with _|i
  ·exact q
  ·exact r.get i (Nat.lt_of_succ_lt_succ h1) (Nat.lt_of_succ_lt_succ h2)
theorem aw {α:Type} {x:α} {G:Prop} (e:(none:Option α)=some x):G:=by injection e
inductive eH:Value->Value->Bool->Prop
 |nn:eH .none .none true
 |ns (z:Str) (t:Tok):eH .none (.str z t) false
 |bb (a b:Bool):eH (.bool a) (.bool b) (a==b)
 |ii (a b:Int) (t u:Tok):eH (.int a t) (.int b u) (a==b)
 |sn (z:Str) (t:Tok):eH (.str z t) .none false
 |ss (y z:Str) (t u:Tok):eH (.str y t) (.str z u) (y==z)
theorem eH.eqAt {x y:Value} {q:Bool} (f:eH x y q):EqAt A s x y q:=by
 cases f
 ·exact EqAt.same _
 ·exact EqAt.none_str _ _
 ·exact EqAt.bool_bool _ _
 ·exact EqAt.int_int _ _ _ _
 ·exact EqAt.str_none _ _
 ·exact EqAt.str_str _ _ _ _
theorem eH.rcAt {x y:Value} {q:Bool} (f:eH x y q):RcAt A s x y q/\RcNeAt A s x y (!q):=by
 cases f
 ·exact ⟨RcAt.none_none,RcNeAt.none_none⟩
 ·exact ⟨RcAt.none_str _ _,RcNeAt.none_str _ _⟩
 ·exact ⟨RcAt.bool_bool _ _,RcNeAt.bool_bool _ _⟩
 ·exact ⟨RcAt.int_int _ _ _ _,RcNeAt.int_int _ _ _ _⟩
 ·exact ⟨RcAt.str_none _ _,RcNeAt.str_none _ _⟩
 ·exact ⟨RcAt.str_str _ _ _ _,RcNeAt.str_str _ _ _ _⟩
theorem ma {a b:V} {x y:Value} {q:Bool} {h:Heap} (ha:am as h a x) (hb:am as h b y) (e:vS a b=some q):eH x y q:=by
 have ha:=ha.inv
 induction a using V.casesOn with
 |none=>
  rw [show x=_ from ha]
  have e:(if b.isNone=true then some true else b.str?.map fun Z=>false)=some q:=e
  by_cases c:b.isNone=true
  ·rw [if_pos c] at e
   cases V.isNone_of c
   rw [show y=_ from hb.inv,<-be e]
   exact .nn
  ·rw [if_neg c] at e
   obtain ⟨z,hz,rfl⟩:=bQ e
   cases V.str_of hz
   obtain ⟨t,rfl⟩:=hb.inv
   exact .ns _ _
 |bool i=>
  rw [show x=_ from ha]
  obtain ⟨z,hz,rfl⟩:=bQ e
  cases V.bool_of hz
  rw [show y=_ from hb.inv]
  exact .bb _ _
 |int i=>
  obtain ⟨t,rfl⟩:=ha
  obtain ⟨z,hz,rfl⟩:=bQ e
  cases V.int_of hz
  obtain ⟨u,rfl⟩:=hb.inv
  exact .ii _ _ _ _
 |str i=>
  obtain ⟨t,rfl⟩:=ha
  have e:(if b.isNone=true then some false else b.str?.map fun y=>az i y)=some q:=e
  by_cases c:b.isNone=true
  ·rw [if_pos c] at e
   cases V.isNone_of c
   rw [show y=_ from hb.inv,<-be e]
   exact .sn _ _
  ·rw [if_neg c] at e
   obtain ⟨z,hz,rfl⟩:=bQ e
   cases V.str_of hz
   obtain ⟨u,rfl⟩:=hb.inv
   rw [<-tF]
   exact .ss _ _ _ _
 |_=>exact aw e
noncomputable def eAt:List V->List V->Nat->Bool
 |a::x,b::y,i=>(match i with
  |0=>(vS a b).getD false
  |i+1=>eAt x y i)
 |[],_,_=>true
 |_,[],_=>true
theorem pA:∀{l m:List V} {q:Bool},oG l m=some q->((List.range (min l.length m.length)).all (eAt l m)&&l.length==m.length)=q/\∀(i:Nat) (h1:i < l.length) (h2:i < m.length),vS l[i] m[i]=some (eAt l m i)
 |[],[],q,h=>⟨be h,fun i h1=>absurd h1 (Nat.not_lt_zero _)⟩
 |[],_::_,q,h=>⟨be h,fun i h1=>absurd h1 (Nat.not_lt_zero _)⟩
 |_::_,[],q,h=>⟨(by simp:_=false).trans (be h),fun i Z h2=>absurd h2 (Nat.not_lt_zero _)⟩
 |a::x,b::y,q,h=>by
  refine a8 h fun p h1 h=>?_
  refine a8 h fun r h2 h=>?_
  obtain ⟨i1,i2⟩:=pA h2
  have e3:eAt (a::x) (b::y) 0=p:=by show (vS a b).getD false=p;rw [h1];rfl
  refine ⟨?_,fun i h3 h4=>?_⟩
  ·rw [<-be h,<-i1,List.length_cons,List.length_cons,Nat.add_min_add_right,List.range_succ_eq_map,List.all_cons,List.all_map,e3,Bool.and_assoc]
   congr 1
   simp
   rfl
  ·rcases i with _|i
   ·rw [e3];exact h1
   ·exact i2 i (Nat.lt_of_succ_lt_succ h3) (Nat.lt_of_succ_lt_succ h4)
theorem gM.to {h:Heap} {a:Addr} {ys:List Value} (t:gM h a ys):h.IsTuple a ys.toArray:=let ⟨o,n,g,c,d,_⟩:=t;⟨o,g,c,n,d⟩
theorem wR {a b:V} {x y:Value} {q:Bool} (hu:A.units < cLine) (ha:am as s.heap a x) (hb:am as s.heap b y) (e:veq a b=some q):RcAt A s x y q/\RcNeAt A s x y (!q):=by
 unfold veq at e
 rcases h1:a.tup? with _|xs
 ·rw [h1] at e
  rcases h2:b.tup? with _|ys
  ·rw [h2] at e
   exact (ma ha hb e).rcAt
  ·rw [h2] at e
   obtain ⟨z,hz,rfl⟩:=bQ e
   cases V.str_of hz
   cases V.tup_of h2
   obtain ⟨t,rfl⟩:=ha.inv
   obtain ⟨p',ws,rfl,tb,rb⟩:=hb.inv
   exact ⟨RcAt.str_tuple _ _ tb.to hu,RcNeAt.str_tuple _ _ tb.to hu⟩
 ·rw [h1] at e
  cases V.tup_of h1
  obtain ⟨p,us,rfl,ta,ra⟩:=ha.inv
  rcases h2:b.tup? with _|ys
  ·rw [h2] at e
   obtain ⟨z,hz,rfl⟩:=bQ e
   cases V.str_of hz
   obtain ⟨t,rfl⟩:=hb.inv
   exact ⟨RcAt.tuple_str _ _ ta.to hu,RcNeAt.tuple_str _ _ ta.to hu⟩
  ·rw [h2] at e
   cases V.tup_of h2
   obtain ⟨p',ws,rfl,tb,rb⟩:=hb.inv
   obtain ⟨e1,e2⟩:=pA e
   have he:∀j (h1:j < us.toArray.size) (h2:j < ws.toArray.size),EqAt A.in1 s us.toArray[j] ws.toArray[j] (eAt xs ys j):=fun j h1 h2=>by
    have k1:j < xs.length:=ra.length▸h1
    have k2:j < ys.length:=rb.length▸h2
    exact (ma (ra.get j k1 h1) (rb.get j k2 h2) (e2 j k1 k2)).eqAt
   have e3:((List.range (min us.toArray.size ws.toArray.size)).all (eAt xs ys)&&us.toArray.size==ws.toArray.size)=q:=by
    rw [<-e1,ra.length,rb.length];rfl
   rw [<-e3]
   exact ⟨RcAt.tuples ta.to tb.to hu he,RcNeAt.tuples ta.to tb.to hu he⟩
theorem bW.list {h:Heap} (R:bW I5 w C B as hh h) {n:Nat} {p:Addr×Addr} {xs:List V} (hp:as[n]?=some p) (hn:bv hh n=some xs):p.2=p.1/\∃ys k,h.get? p.1=some { cls:=.type "list",data:=.seq ys k }/\aj as h xs ys.toList:=R.obj n _ p (Af hn) hp
theorem au {h:Heap} {a:Addr} {ys:Array Value} {k:Nat} (g:h.get? a=some { cls:=.type "list",data:=.seq ys k }):h.IsList a ys:=⟨_,g,rfl,k,rfl⟩
theorem wS {m n:Nat} {x y:Value} {q:Bool} (R:bW I5 w C B as hh s.heap) (hu:A.units < cLine) (ha:am as s.heap (.ref m) x) (hb:am as s.heap (.ref n) y) (e:sb m n hh=some q):RcAt A s x y q/\RcNeAt A s x y (!q):=by
 refine a8 e fun xs g1 e=>?_
 refine a8 e fun ys g2 e=>?_
 refine aJ e fun hz e=>?_
 have e:=be e
 obtain ⟨p,h1,rfl⟩:=ha.inv
 obtain ⟨p',h2,rfl⟩:=hb.inv
 obtain ⟨-,us,k,l1,r1⟩:=R.list h1 g1
 obtain ⟨-,ws,k',l2,r2⟩:=R.list h2 g2
 have z1:us.size=xs.length:=by rw [r1.length];simp
 have z2:ws.size=ys.length:=by rw [r2.length];simp
 rw [Bool.or_eq_true_iff,List.isEmpty_iff_length_eq_zero,List.isEmpty_iff_length_eq_zero,<-z1,<-z2] at hz
 by_cases hs:us.size=ws.size
 ·have u0:us.size=0:=by omega
  have he:∀j (h1:j < us.size) (h2:j < ws.size),EqAt A.in1 s us[j] ws[j] ((fun Z=>true) j):=fun j h1=>absurd h1 (by omega)
  have e3:((List.range us.size).all (fun Z=>true))=q:=by
   rw [<-e,u0,List.isEmpty_iff_length_eq_zero.mpr (z1.symm.trans u0),List.isEmpty_iff_length_eq_zero.mpr (z2.symm.trans (hs.symm.trans u0))];rfl
  rw [<-e3]
  exact ⟨RcAt.lists (au l1) (au l2) hs hu he,RcNeAt.lists (au l1) (au l2) hs hu he⟩
 ·have q0:q=false:=by
   rw [<-e,Bool.and_eq_false_iff,<-Bool.not_eq_true,<-Bool.not_eq_true,List.isEmpty_iff_length_eq_zero,List.isEmpty_iff_length_eq_zero]
   omega
  rw [q0]
  exact ⟨RcAt.lists_lengths (au l1) (au l2) (bne_iff_ne.mpr hs) hu,RcNeAt.lists_lengths (au l1) (au l2) (bne_iff_ne.mpr hs) hu⟩
theorem pO {a b:V} {x y:Value} {q:Bool} (R:bW I5 w C B as hh s.heap) (hu:A.units < cLine) (ha:am as s.heap a x) (hb:am as s.heap b y) (e:kx a b hh=some q):RcAt A s x y q/\RcNeAt A s x y (!q):=by
 unfold kx at e
 rcases h1:a.ref? with _|m
 ·rw [h1] at e
  exact wR hu ha hb e
 ·rw [h1] at e
  refine a8 e fun n h2 e=>?_
  cases V.ref_of h1
  cases V.ref_of h2
  exact wS R hu ha hb e
end
end
section
open W PyProof.Rows SeqAt
section
variable {I5:Program} {w:World} {C:CV} {P:PT} {K:Frag} {B:Heap} {fr:List Env} {own:Addr->Prop} {A:Around} {E:Value->Shared->Prop} {as as':AS} {s s':Shared} {hh hh':H} {env:Env} {ρ:Loc} {cf:V->List V->PM V} {n:Nat}
theorem bi.length {h:Heap} {es:List (Key×V)} {l:List (Str×Value)} (S:bi as h es l):es.length=l.length:=by
 induction S with
 |nil=>rfl
 |cons _ _ ih=>exact congrArg (·+1) ih
theorem di.length {h:Heap} {es:List (Key×V)} {l:List (List FK×Addr×Value)} (S:di as h es l):es.length=l.length:=by
 induction S with
 |nil=>rfl
 |cons _ _ ih=>exact congrArg (·+1) ih
theorem dO {α:Type} [BEq α] [LawfulBEq α] {a b:α} (h:¬a=b):(a==b)=false:=beq_eq_false_iff_ne.mpr h
def Gx (as:AS) (h:Heap) (o:Option Value):Option V->Prop
 |some v=>∃y,o=some y/\am as h v y
 |none=>o=none
theorem bi.look {h:Heap} {es:List (Key×V)} {l:List (Str×Value)} (S:bi as h es l) (x:List Nat):Gx as h (valueAt l (ah x)) (es.lookup (.s x)):=by
 induction S with
 |nil=>rfl
 |@cons z v y r l rv _ ih=>
  unfold valueAt at ih⊢
  rw [so,List.find?_cons]
  by_cases hz:z=x
  ·rw [hz,beq_self_eq_true,decide_eq_true rfl];exact ⟨y,rfl,rv⟩
  ·rw [dO (a:=Key.s x) (b:=Key.s z) fun e=>hz (by (injection e with e;subst e);rfl),decide_eq_false fun e=>hz (db e)];exact ih
def Gw (as:AS) (h:Heap) (o:Option (Addr×Value)):Option V->Prop
 |some v=>∃a y,o=some (a,y)/\am as h v y
 |none=>o=none
theorem di.look {h:Heap} {es:List (Key×V)} {l:List (List FK×Addr×Value)} (S:di as h es l) (x:List FK):Gw as h (atKey l x) (es.lookup (.t x)):=by
 induction S with
 |nil=>rfl
 |@cons z v a y r l rv _ ih=>
  unfold atKey at ih⊢
  rw [so,List.find?_cons]
  by_cases hz:z=x
  ·rw [hz,beq_self_eq_true,decide_eq_true rfl];exact ⟨a,y,rfl,rv⟩
  ·rw [dO (a:=Key.t x) (b:=Key.t z) fun e=>hz (by (injection e with e;subst e);rfl),decide_eq_false hz];exact ih
def DictAt (I5:Program) (w:World) (as:AS) (h:Heap) (a:Addr) (es:List (Key×V)):Prop:=(∃kvs,h.DictOf (strKind I5 w) a kvs/\bi as h es kvs)\/∃rows,h.DictOfH (tupleKind (eG I5 w)) a rows/\di as h es rows
theorem bW.dict {h:Heap} (R:bW I5 w C B as hh h) {n:Nat} {p:Addr×Addr} {es:List (Key×V)} (hp:as[n]?=some p) (hn:getD hh n=some es):p.2=p.1/\DictAt I5 w as h p.1 es:=R.obj n _ p (Ah hn) hp
theorem hU {K:Type} [DecidableEq K] {knd:KeyKind I5 w K} {h:Heap} {a:Addr} {o:Obj} {ep} (g:h.get? a=some o) (x:o.ExactDict) (d:o.data=.dict #[] ep):h.DictOf knd a []:=
 ⟨o,#[],ep,g,x,d,fun i h=>absurd h (Array.not_mem_empty _),.nil,.nil⟩
theorem oy {K:Type} [DecidableEq K] {knd:HeapKind I5 w K} {h:Heap} {a:Addr} {o:Obj} {ep} (g:h.get? a=some o) (x:o.ExactDict) (d:o.data=.dict #[] ep):h.DictOfH knd a []:=
 ⟨o,#[],ep,g,x,d,rfl,fun x h=>absurd h List.not_mem_nil,.nil⟩
theorem lS {h:Heap} {a:Addr} {es:List (Key×V)} (r:DictAt I5 w as h a es) {x:List Nat} (hk:es.all (fun e=>iq (.s x) e.1)=true):∃kvs,h.DictOf (strKind I5 w) a kvs/\bi as h es kvs:=by
 rcases r with r|⟨rows,D,T⟩
 ·exact r
 ·cases T with
  |nil=>
   obtain ⟨o,es,ep,g,x,d,l,_⟩:=D
   rw [show es=#[] from Array.toList_inj.mp l] at d
   exact ⟨[],hU g x d,.nil⟩
  |cons _ _=>injection hk
theorem sZ {h:Heap} {a:Addr} {es:List (Key×V)} (r:DictAt I5 w as h a es) {x:List FK} (hk:es.all (fun e=>iq (.t x) e.1)=true):∃rows,h.DictOfH (tupleKind (eG I5 w)) a rows/\di as h es rows:=by
 rcases r with ⟨kvs,D,S⟩|r
 ·cases S with
  |nil=>
   obtain ⟨o,es,ep,g,x,d,k,l,_⟩:=D
   rw [Array.eq_empty_of_size_eq_zero (Pairs.length l)] at d
   exact ⟨[],oy g x d,.nil⟩
  |cons _ _=>injection hk
 ·exact r
def C4 (v:V):Key->Prop
 |.s x=>v=.str x
 |.t ks=>∃xs,v=.tup xs/\xs.mapM cK=some ks
theorem xd {v:V} {k:Key} (h:qx v=some k):C4 v k:=isO.to (by
 clear h
 induction v using V.casesOn with
 |str x=>exact rfl
 |tup xs=>
  show isO _ ((xs.mapM cK).map Key.t)
  rcases hm:xs.mapM cK with _|l
  ·exact trivial
  ·exact ⟨xs,rfl,hm⟩
 |_=>exact trivial) h
theorem iz {v:V} {es:List (Key×V)} {k:Key} (h:dy v es=some k):C4 v k/\es.all (fun e=>iq k e.1)=true:=by
 refine a8 h fun q h1 h2=>?_
 refine aJ h2 fun h2 h3=>?_
 cases h3
 exact ⟨xd h1,h2⟩
theorem eT {α β:Type} {f:α->Option β} {a:α} {l:List α} {m:List β} (h:(a::l).mapM f=some m):∃b r,f a=some b/\l.mapM f=some r/\m=b::r:=by
 rw [List.mapM_cons] at h
 refine a8 h fun b h1 h=>?_
 refine a8 h fun r h2 h=>?_
 exact ⟨b,r,h1,h2,(be h).symm⟩
theorem Am {h:Heap} {v:V} {k:FK} {x:Value} (r:am as h v x) (e:cK v=some k):FK.is k x=true:=by
 have r:=r.inv
 induction v using V.casesOn with
 |int n=>obtain ⟨t,rfl⟩:=r;(injection e with e;subst e);exact decide_eq_true rfl
 |str z=>obtain ⟨t,rfl⟩:=r;(injection e with e;subst e);exact decide_eq_true rfl
 |_=>exact aw e
theorem jk {h:Heap}:∀{xs:List V} {ks:List FK} {ys:List Value},xs.mapM cK=some ks->aj as h xs ys->ItemsAre (eG I5 w) ks ys
 |[],ks,_,hm,r=>by rw [show _=[] from r.inv];(injection hm with hm;subst hm);exact .nil
 |v::xs,ks,_,hm,r=>by
  obtain ⟨k,l,h1,h2,rfl⟩:=eT hm
  obtain ⟨y,ys,rfl,r1,r2⟩:=r.inv
  exact .cons (Am r1 h1) (jk h2 r2)
theorem eo {h:Heap} {xs:List V} {ks:List FK} {a:Addr} {ys:List Value} (hm:xs.mapM cK=some ks) (t:gM h a ys) (r:aj as h xs ys):IsTupleKey (eG I5 w) h ks a:=by
 obtain ⟨o,n,g,c,d,_⟩:=t
 exact ⟨o,_,n,g,c,d,jk hm r⟩
theorem bW.notSys {h:Heap} (R:bW I5 w C B as hh h) (FX:aU C P B K) {n:Nat} {p:Addr×Addr} (hp:as[n]?=some p):(p.1==sysModules)=false:=dO fun e=>by
 have h2:=FX.sys
 rw [<-e,(R.new p (we hp)).1] at h2
 injection h2
theorem mE:∀{a b:List Nat},n5 a b=true↔a <+: b
 |[],b=>⟨fun Z=>List.nil_prefix,fun Z=>rfl⟩
 |x::a,[]=>⟨fun h=>(Bool.false_ne_true h).elim,fun h=>by simp at h⟩
 |x::a,y::b=>by
  rw [show n5 (x::a) (y::b)=(x==y&&n5 a b) from rfl]
  simp only [Bool.and_eq_true,beq_iff_eq,List.cons_prefix_cons,mE (a:=a) (b:=b)]
theorem me {a:List Nat}:∀{b:List Nat},subIn a b=true↔a <:+: b
 |[]=>by rw [show subIn a []=a.isEmpty from rfl];simp
 |y::b=>by
  rw [show subIn a (y::b)=(n5 a (y::b)||subIn a b) from rfl]
  simp only [Bool.or_eq_true,mE,me (b:=b),List.infix_cons_iff]
theorem mU (a b:List Nat):Txt.contains (ah b) (ah a)=subIn a b:=by
 rw [Bool.eq_iff_iff,me]
 unfold Txt.contains
 rw [StrLaws.found_iff]
 constructor
 ·rintro ⟨i,h1,h2⟩
  simp only [Builtin.Str.subAt,beq_iff_eq] at h2
  have h3:=congrArg Array.toList h2
  simp only [Str.length,ah,List.size_toArray,List.extract_toArray,List.extract_eq_take_drop,Nat.add_sub_cancel_left] at h1 h3
  rw [<-h3]
  exact (List.take_prefix _ _).isInfix.trans (List.drop_suffix _ _).isInfix
 ·rintro ⟨l,r,rfl⟩
  refine ⟨l.length,by simp [Str.length],?_⟩
  simp only [Builtin.Str.subAt,beq_iff_eq,Str.length,List.size_toArray]
  apply Array.toList_inj.mp
  simp [List.extract_eq_take_drop]
inductive vX:List (List Nat)->List Value->Prop
 |nil:vX [] []
 |cons {w:List Nat} {ws:List (List Nat)} {ys:List Value} (t:Tok):vX ws ys->vX (w::ws) (.str (ah w) t::ys)
theorem gW {h:Heap}:∀{xs:List V} {ws:List (List Nat)} {ys:List Value},bX xs=some ws->aj as h xs ys->vX ws ys
 |[],ws,_,e,r=>by rw [show _=[] from r.inv,<-be e];exact .nil
 |v::xs,ws,_,e,r=>by
  refine a8 e fun z h1 e=>?_
  refine aW e fun l h2 e=>?_
  obtain ⟨y,ys,rfl,r1,r2⟩:=r.inv
  rw [V.str_of h1] at r1
  obtain ⟨t,rfl⟩:=r1.inv
  rw [<-e]
  exact .cons t (gW h2 r2)
noncomputable def isS (a:List Nat):Value->Bool
 |.str z _=>ah a==z
 |_=>false
theorem vX.any {a:List Nat} {ws:List (List Nat)} {ys:List Value} (S:vX ws ys):ys.any (isS a)=ws.any fun y=>az a y:=by
 induction S with
 |nil=>rfl
 |@cons w ws ys t _ ih=>rw [List.any_cons,List.any_cons,ih,<-tF];rfl
theorem vX.eqAt {a:List Nat} {t:Tok} {ws:List (List Nat)} {ys:List Value} (S:vX ws ys):∀y∈ys,EqAt A s y (.str (ah a) t) (isS a y):=by
 induction S with
 |nil=>exact fun y h=>absurd h List.not_mem_nil
 |@cons w ws ys u _ ih=>
  intro y hy
  rcases List.mem_cons.mp hy with rfl|hy
  ·show EqAt A s _ _ (ah a==ah w)
   rw [show (ah a==ah w)=(ah w==ah a) from Bool.eq_iff_iff.mpr (by rw [beq_iff_eq,beq_iff_eq];exact eq_comm)]
   exact EqAt.str_str _ _ _ _
  ·exact ih y hy
noncomputable abbrev HH (I5:Program) (w:World) (A:Around) (x y:Value) (q:Bool) (Q:Value->Shared->Prop) (E:Value->Shared->Prop) (s:Shared):Prop:=
 ((∀tk,Q (.bool q) { s with toks:=tk })->wpAny (model I5 w) A (compareOp .In x y) Q E s)/\((∀tk,Q (.bool (!q)) { s with toks:=tk })->wpAny (model I5 w) A (compareOp .NotIn x y) Q E s)
theorem yx {c:List Nat} {xs:List V} {ys:List Value} {h:Heap} {q:Bool} (e:jO c xs=some q) (r:aj as h xs ys):ys.toArray.any (isS c)=q/\∀{A:Around} {s:Shared} {t:Tok},∀y∈ys.toArray,EqAt A s y (.str (ah c) t) (isS c y):=by
 obtain ⟨ws,h1,rfl⟩:=bQ e
 have S:=gW h1 r
 exact ⟨by rw [List.any_toArray,S.any],fun y hy=>S.eqAt y (List.mem_toArray.mp hy)⟩
theorem bO (z:List Nat) (t:Tok):(strKind I5 w).is (ah z) (.str (ah z) t)=true:=decide_eq_true rfl
theorem yi {a b:V} {x y:Value} {q:Bool} {Q:Value->Shared->Prop} (FX:aU C P B K) (R:bW I5 w C B as hh s.heap) (ha:am as s.heap a x) (hb:am as s.heap b y) (e:vin a b hh=some q):HH I5 w A x y q Q E s:=by
 replace e:=kO e
 obtain ⟨c,h1,e⟩:=e
 rw [V.str_of h1] at ha
 obtain ⟨t,rfl⟩:=ha.inv
 replace hb:=hb.inv
 induction b using V.casesOn with
 |str z=>
  obtain ⟨u,rfl⟩:=hb
  rw [<-be e,<-mU]
  exact ⟨fun h=>SB.contains (h s.toks),fun h=>SB.notContains (h s.toks)⟩
 |tup xs=>
  obtain ⟨p,ys,rfl,tb,rb⟩:=hb
  obtain ⟨e3,he⟩:=yx e rb
  rw [<-e3]
  exact ⟨fun h=>in_tupleAt _ tb.to he (h s.toks),fun h=>notIn_tupleAt _ tb.to he (h s.toks)⟩
 |ref n=>
  obtain ⟨p,hp,rfl⟩:=hb
  replace e:=kO e
  obtain ⟨o,ho,e⟩:=e
  rcases o with xs|es|_
  ·obtain ⟨-,ys,k,g,r⟩:=R.obj n _ p ho hp
   obtain ⟨e3,he⟩:=yx e r
   rw [<-e3]
   exact ⟨fun h=>in_listAt _ (au g) he (h s.toks),fun h=>notIn_listAt _ (au g) he (h s.toks)⟩
  ·obtain ⟨-,r⟩:=R.obj n _ p ho hp
   obtain ⟨k,hk,rfl⟩:=bQ e
   obtain ⟨h1,h2⟩:=iz hk
   rcases k with z|ks
   ·cases h1
    obtain ⟨kvs,D,S⟩:=lS r h2
    have hl:=S.look c
    have e3:(valueAt kvs (ah c)).isSome=(es.lookup (.s c)).isSome:=by
     cases hz:es.lookup (.s c) with
     |none=>rw [hz] at hl;rw [show _=none from hl];rfl
     |some v=>rw [hz] at hl;obtain ⟨y,hy,_⟩:=hl;rw [hy];rfl
    rw [<-e3]
    exact ⟨fun h=>wpAny_in_of (bO c t) (R.notSys FX hp) D.mapOf (h _),fun h=>wpAny_notIn_of (bO c t) (R.notSys FX hp) D.mapOf (h _)⟩
   ·obtain ⟨xs,h,_⟩:=h1;cases h
  ·exact aw e
 |_=>exact aw e
theorem Bd.noTup {o:Obj} (k:Bd o) (e:o.cls=.type "tuple"):False:=by
 rcases k with k|k|⟨c,k,_⟩
 ·rw [k] at e;revert e;decide
 ·rw [k] at e;revert e;decide
 ·exact nomatch k.symm.trans e
theorem om {m n:Nat} {x y:Value} {Q:Bool->Shared->Prop} (R:bW I5 w C B as hh s.heap) (ha:am as s.heap (.ref m) x) (hb:am as s.heap (.ref n) y) (h:Q (m==n) s):wpAny (model I5 w) A (isSame x y) Q E s:=by
 obtain ⟨p,h1,rfl⟩:=ha.inv
 obtain ⟨p',h2,rfl⟩:=hb.inv
 by_cases e:m=n
 ·subst e
  obtain rfl:p=p':=be (h1.symm.trans h2)
  exact wpAny_isSame_ref_self (beq_self_eq_true m▸h)
 ·rw [dO e] at h
  obtain ⟨o1,g1,k1⟩:=R.kind ⟨p,we h1,.inl rfl⟩
  obtain ⟨o2,g2,_⟩:=R.kind ⟨p',we h2,.inl rfl⟩
  exact wpAny_isSame_ref_other (R.apart m n p p' h1 h2 e).1 g1 g2 (fun e=>k1.noTup e) h
theorem xW {a b:V} {x y:Value} {q:Bool} {Q:Bool->Shared->Prop} (R:bW I5 w C B as hh s.heap) (ha:am as s.heap a x) (hb:am as s.heap b y) (e:vis a b=some q) (h:Q q s):wpAny (model I5 w) A (isSame x y) Q E s:=by
 unfold vis at e
 by_cases cb:b.isNone=true
 ·rw [if_pos cb] at e
  rw [V.isNone_of cb] at hb
  rw [show y=_ from hb.inv]
  by_cases ca:a.isNone=true
  ·rw [if_pos ca] at e
   rw [V.isNone_of ca] at ha
   rw [show x=_ from ha.inv]
   rw [<-be e] at h
   exact wpAny_isSame_plain rfl h
  ·rw [if_neg ca] at e
   refine aJ e fun hs e2=>?_
   rw [<-be e2] at h
   clear e e2 ca
   replace ha:=ha.inv
   induction a using V.casesOn with
   |str=>obtain ⟨t,rfl⟩:=ha;exact wpAny_isSame_plain rfl h
   |int=>obtain ⟨t,rfl⟩:=ha;exact wpAny_isSame_plain rfl h
   |tup=>obtain ⟨t,_,rfl,_⟩:=ha;exact wpAny_isSame_plain rfl h
   |bool=>rw [show x=_ from ha];exact wpAny_isSame_plain rfl h
   |ref=>obtain ⟨t,_,rfl⟩:=ha;exact wpAny_isSame_plain rfl h
   |_=>injection hs
 ·rw [if_neg cb] at e
  refine a8 e fun n h1 e2=>?_
  rw [V.ref_of h1] at hb
  by_cases ca:a.isNone=true
  ·rw [if_pos ca] at e2
   rw [V.isNone_of ca] at ha
   rw [show x=_ from ha.inv]
   obtain ⟨p,_,rfl⟩:=hb.inv
   rw [<-be e2] at h
   exact wpAny_isSame_plain rfl h
  ·rw [if_neg ca] at e2
   obtain ⟨m,h2,rfl⟩:=bQ e2
   rw [V.ref_of h2] at ha
   exact om R ha hb h
theorem mf:∀{a b:List Nat},fG a b=!decide (b < a)
 |[],[]=>by rw [show fG [] []=true from rfl];simp
 |[],y::b=>by rw [show fG [] (y::b)=true from rfl];simp
 |x::a,[]=>by rw [show fG (x::a) []=false from rfl];simp
 |x::a,y::b=>by
  rw [show fG (x::a) (y::b)=(decide (x < y)||(x==y&&fG a b)) from rfl,mf (a:=a) (b:=b),Bool.eq_iff_iff]
  simp only [Bool.or_eq_true,decide_eq_true_eq,Bool.and_eq_true,beq_iff_eq,Bool.not_eq_true',decide_eq_false_iff_not,List.cons_lt_cons_iff,not_or,not_and]
  constructor
  ·rintro (h|⟨h,h2⟩)
   ·exact ⟨by omega,fun e=>by omega⟩
   ·exact ⟨by omega,fun Z=>h2⟩
  ·rintro ⟨h,h2⟩
   rcases Nat.lt_trichotomy x y with c|c|c
   ·exact .inl c
   ·exact .inr ⟨c,h2 c.symm⟩
   ·exact absurd c h
theorem cy {op:CmpOp} {a b:V} {x y:Value} {q:Bool} {Q:Value->Shared->Prop} (FX:aU C P B K) (R:bW I5 w C B as hh s.heap) (hu:A.units < cLine) (ha:am as s.heap a x) (hb:am as s.heap b y) (e:aH op a b hh=some q)
  (h:∀tk,Q (.bool q) { s with toks:=tk }):wpAny (model I5 w) A (compareOp op x y) Q E s:=by
 have both:∀{f:Int->Int->Option Bool},gF a b f=some q->∃i j t u,x=.int i t/\y=.int j u/\f i j=some q:=fun {f} e=>by
  obtain ⟨i,j,e1,e2,e⟩:=nG e
  rw [e1] at ha
  rw [e2] at hb
  obtain ⟨t,h1⟩:=ha.inv
  obtain ⟨u,h2⟩:=hb.inv
  exact ⟨i,j,t,u,h1,h2,e⟩
 rcases op with _|_|_|_|_|_|_|_|_|_
 ·exact EqBoolInt.of_rc (pO R hu ha hb e).1 (h s.toks)
 ·obtain ⟨p,e1,rfl⟩:=bQ e
  exact EqBoolInt.of_rcne (pO R hu ha hb e1).2 (h s.toks)
 ·obtain ⟨i,j,t,u,e1,e2,e⟩:=both e
  rw [e1,e2]
  exact PyProof.Rows.lt_int (be e▸h s.toks)
 ·have e:leV a b=some q:=e
  unfold leV at e
  rcases h1:a.str? with _|z
  ·rw [h1] at e
   obtain ⟨i,j,t,u,e1,e2,e⟩:=both e
   rw [e1,e2]
   exact PySem.P.le_int (be e▸h s.toks)
  ·rw [h1] at e
   refine aW e fun z' h2 e3=>?_
   rw [V.str_of h1] at ha
   rw [V.str_of h2] at hb
   obtain ⟨t,e1⟩:=ha.inv
   obtain ⟨u,e2⟩:=hb.inv
   rw [e1,e2]
   refine PySem.P.le_str ?_
   rw [<-mf,e3]
   exact h s.toks
 ·obtain ⟨i,j,t,u,e1,e2,e⟩:=both e
  rw [e1,e2]
  exact PyProof.Rows.gt_int (be e▸h s.toks)
 ·obtain ⟨i,j,t,u,e1,e2,e⟩:=both e
  rw [e1,e2]
  exact PySem.P.ge_int (be e▸h s.toks)
 ·show wpAny _ _ (do return .bool (<-isSame x y)) Q E s
  exact wpAny_bind (xW R ha hb e (wpAny_pure (h s.toks)))
 ·obtain ⟨p,e1,rfl⟩:=bQ e
  show wpAny _ _ (do return .bool (!(<-isSame x y))) Q E s
  exact wpAny_bind (xW R ha hb e1 (wpAny_pure (h s.toks)))
 ·exact (yi FX R ha hb e).1 h
 ·obtain ⟨p,e1,rfl⟩:=bQ e
  exact (yi FX R ha hb e1).2 h
end
end
section
open W PyProof.Rows SeqAt
section
variable {I5:Program} {w:World} {C:CV} {P:PT} {B:Heap} {fr:List Env} {own:Addr->Prop} {A:Around} {Q:Value->Shared->Prop} {E:Value->Shared->Prop} {as as':AS} {s s':Shared} {hh hh':H} {env:Env} {ρ:Loc} {cf:V->List V->PM V} {n:Nat}
theorem aR {n:Nat} (h:n<=100000):n<=sizeLine:=HN h (by decide)
theorem uc {a:V} {n:Nat} (e:oJ a hh=some n):lM a hh=some n/\n<=100000:=by
 refine a8 e fun m h1 e=>?_
 refine aJ e fun h2 e=>?_
 rw [<-be e]
 exact ⟨h1,of_decide_eq_true h2⟩
theorem yr {a:V} {x:Value} {n:Nat} (R:bW I5 w C B as hh s.heap) (ha:am as s.heap a x) (e:lM a hh=some n):
  (∃z t,a=.str z/\x=.str (ah z) t/\z.length=n)\/(∃p ys,x=.ref p/\s.heap.IsTuple p ys/\ys.size=n)\/∃p ys,x=.ref p/\s.heap.IsList p ys/\ys.size=n:=by
 replace ha:=ha.inv
 induction a using V.casesOn with
 |str z=>obtain ⟨t,rfl⟩:=ha;exact .inl ⟨z,t,rfl,rfl,be e⟩
 |tup xs=>obtain ⟨p,ys,rfl,t,r⟩:=ha;exact .inr (.inl ⟨p,_,rfl,t.to,r.length.symm.trans (be e)⟩)
 |ref m=>
  obtain ⟨p,hp,rfl⟩:=ha
  refine aW e fun xs h1 e=>?_
  obtain ⟨-,ys,k,g,r⟩:=R.list hp h1
  exact .inr (.inr ⟨p.1,ys,rfl,au g,r.length.symm.trans e⟩)
 |_=>exact aw e
theorem tI {α:Type} {ys:Array α} {n:Nat} (h:ys.size=n):(!ys.isEmpty)=(n != 0):=by rw [<-h];rfl
theorem fk {a:V} {x:Value} {q:Bool} {Q:Bool->Shared->Prop} (R:bW I5 w C B as hh s.heap) (ha:am as s.heap a x) (e:truthy a hh=some q) (h:∀tk,Q q { s with toks:=tk }):wpAny (model I5 w) A (PySem.truthy x) Q E s:=by
 have rest:((oJ a hh).map fun n=>n != 0)=some q->wpAny (model I5 w) A (PySem.truthy x) Q E s:=fun e=>by
  refine aW e fun n h1 e=>?_
  obtain ⟨h1,h2⟩:=uc h1
  rcases yr R ha h1 with ⟨z,t,-,e1,h3⟩|⟨p,ys,e1,h3,h4⟩|⟨p,ys,e1,h3,h4⟩
  ·rw [e1]
   refine SBL.truthy (show (z.length:Int) < 9223372036854775808 by omega) ?_
   rw [show (((ah z).length:Int) != 0)=q by rw [<-e,<-h3];exact Bool.eq_iff_iff.mpr (by rw [bne_iff_ne,bne_iff_ne];exact not_congr Int.natCast_eq_zero)]
   exact h _
  ·rw [e1]
   refine truthy_tuple h3 (by omega) ?_
   rw [tI h4,e]
   exact h _
  ·rw [e1]
   refine wpAny_truthy_list h3 (by omega) ?_
   rw [tI h4,e]
   exact h _
 induction a using V.casesOn with
 |none=>rw [show x=_ from ha.inv];exact truthy_none (be e▸h s.toks)
 |bool=>rw [show x=_ from ha.inv];exact wpAny_truthy_bool (be e▸h s.toks)
 |int=>obtain ⟨t,e1⟩:=ha.inv;rw [e1];exact PyProof.Rows.truthy_int (be e▸h s.toks)
 |_=>exact rest e
theorem ai.list {xs:List V} {ys:Array Value} {k:Nat} {tk:Nat} {D:Addr} {h':Heap} (h0:aP I5 w C B fr as hh s) (h:ai I5 w C B am fr ay as s (.ok (.ref hh.length) (hh++[.list xs])) Q E)
  (kp:∀a o,s.heap.get? a=some o->h'.get? a=some o) (hD:s.heap.get? D=none) (g:h'.get? D=some { cls:=.type "list",data:=.seq ys k }) (r:aj as s.heap xs ys.toList):Q (.ref D) { s with heap:=h',toks:=tk }:=by
 have mv:aj (as++[(D,D)]) h' xs ys.toList:=(am.mono' (as:=as) (as':=as++[(D,D)]) (h:=s.heap) (h':=h') ⟨_,rfl⟩ fun a o e Z=>kp a o e).2 r
 refine h (as++[(D,D)]) { s with heap:=h',toks:=tk } (.ref D) (aI.add (s':={ s with heap:=h',toks:=tk }) h0 kp hD hD ⟨rfl,ys,k,g,mv⟩ rfl rfl ⟨id,id⟩) (fc h0.R.len (D,D))
theorem ai.tup {xs:List V} {ys:List Value} {tk:Nat} {D:Addr} {h':Heap} (h0:aP I5 w C B fr as hh s) (h:ai I5 w C B am fr ay as s (.ok (.tup xs) hh) Q E)
  (kp:∀a o,s.heap.get? a=some o->h'.get? a=some o) (g:gM h' D ys) (r:aj as s.heap xs ys):Q (.ref D) { s with heap:=h',toks:=tk }:=
 ai.grown h0 h kp (.tup g ((am.mono' (as':=as) ⟨[],by simp⟩ fun a o e Z=>kp a o e).2 r))
theorem ak {h:Heap} (o:Obj):∀a ob,h.get? a=some ob->(h.push o).get? a=some ob:=fun Z Z e=>HV o e
theorem b7 {h:Heap}:h.get? h.objs.size=none:=HW (HM _)
theorem aj.append {h:Heap}:∀{xs ys:List V} {us ws:List Value},aj as h xs us->aj as h ys ws->aj as h (xs++ys) (us++ws)
 |[],_,_,_,r,r'=>by rw [show _=[] from r.inv];exact r'
 |_::_,_,_,_,r,r'=>by obtain ⟨y,ys,rfl,r1,r2⟩:=r.inv;exact .cons r1 (r2.append r')
theorem aj.nil_iff {h:Heap} {xs:List V} {us:List Value} (r:aj as h xs us):xs=[]↔us=[]:=by rw [<-List.length_eq_zero_iff,<-List.length_eq_zero_iff,r.length]
theorem mO (a b:List Nat):ah a++ah b=ah (a++b):=by
 show (⟨a.toArray++b.toArray⟩:Str)=⟨(a++b).toArray⟩
 rw [List.append_toArray]
theorem eQ {k:Int} (h:small k=true):-9223372036854775808 < k/\k < 9223372036854775808:=let ⟨a,b⟩:=aV h;⟨of_decide_eq_true a,of_decide_eq_true b⟩
theorem vg {op:Operator} {i j r:Int} {t u:Tok} (hop:op≠.Add) (e:si op i j=some r) (h:∀tk,Q (.int r tk) { s with toks:=s.toks+1 }):wpAny (model I5 w) A (binaryOp op (.int i t) (.int j u)) Q E s:=by
 induction op using PySem.Operator.casesOn with
 |Sub=>exact PySem.P.sub_int (be e▸h _)
 |Mult=>
  refine aJ e fun hs e=>?_
  obtain ⟨h1,h2⟩:=eQ (aV hs).1
  exact PySem.P.mul_int (be e▸h _) (IntMulOk.of_left (intBits_le_64 (by omega) (by omega)))
 |FloorDiv=>
  refine aJ e fun hs e=>?_
  refine a7 hs fun h1 h2=>?_
  have h2:=of_decide_eq_true h2
  exact floordiv_int (bne_iff_ne.mp h1) (be e▸h _) (.inl (PyProof.noPylong_small (by omega)))
 |Mod=>
  refine aJ e fun hs e=>?_
  exact mod_int' (bne_iff_ne.mp hs) (be e▸h _)
 |Add=>exact absurd rfl hop
 |_=>exact aw e
theorem xQ {p p':Addr} {us ws:List Value} {xs ys:List V} (h0:aP I5 w C B fr as hh s) (ta:gM s.heap p us) (tb:gM s.heap p' ws) (ra:aj as s.heap xs us) (rb:aj as s.heap ys ws) (hl:xs.length+ys.length<=100000) (hok:okT (xs++ys)=true)
  (h:ai I5 w C B am fr ay as s (.ok (.tup (xs++ys)) hh) Q E):wpAny (model I5 w) A (binaryOp .Add (.ref p) (.ref p')) Q E s:=by
 have lx:=ra.length
 have ly:=rb.length
 have ta':=ta
 have tb':=tb
 obtain ⟨⟨cls,dd,data,sl⟩,n,ho,hc,hd,_⟩:=ta'
 obtain ⟨⟨cls2,dd2,data2,sl2⟩,n2,ho2,hc2,hd2,_⟩:=tb'
 simp only at hc hd hc2 hd2
 subst hc hd hc2 hd2
 by_cases hv:us=[]
 ·have hx:=ra.nil_iff.mpr hv
  rw [hx,List.nil_append] at h
  have q:Q (.ref p') s:=h.now h0 (am.tup tb rb)
  exact concat_meets ⟨_,ho,rfl⟩ ⟨_,ho2,rfl⟩ noFill_tuple_add seq_tuple_add PySem.F.slot_tuple_add PySem.F.entry_tuple_add (PySem.F.args_tuple_add_2 _ _)
   (tuple_addW0 _ _ us.toArray ws.toArray n n2 dd dd2 sl sl2 (by rw [hv];rfl)) ⟨ho,ho2,q⟩
 ·by_cases hw:ws=[]
  ·have hy:=rb.nil_iff.mpr hw
   rw [hy,th] at h
   have q:Q (.ref p) s:=h.now h0 (am.tup ta ra)
   exact concat_meets ⟨_,ho,rfl⟩ ⟨_,ho2,rfl⟩ noFill_tuple_add seq_tuple_add PySem.F.slot_tuple_add PySem.F.entry_tuple_add (PySem.F.args_tuple_add_2 _ _)
    (tuple_addW1 _ _ us.toArray ws.toArray n n2 dd dd2 sl sl2 (by simpa using hv) (by rw [hw];rfl)) ⟨ho,ho2,q⟩
  ·refine concat_meets ⟨_,ho,rfl⟩ ⟨_,ho2,rfl⟩ noFill_tuple_add seq_tuple_add PySem.F.slot_tuple_add PySem.F.entry_tuple_add (PySem.F.args_tuple_add_2 _ _)
    (tuple_addW2 _ _ us.toArray ws.toArray n n2 dd dd2 sl sl2 (by simpa using hv) (by simpa using hw) (aR (show us.length+ws.length<=_ by omega))) ⟨ho,ho2,?_⟩
   exact ai.tup (tk:=s.toks) h0 h (ak _) ⟨_,0,HU _ rfl,rfl,by rw [<-List.append_toArray],sH hok (ra.append rb)⟩ (ra.append rb)
theorem v4 {op:Operator} {a b:V} {x y:Value} (h0:aP I5 w C B fr as hh s) (ha:am as s.heap a x) (hb:am as s.heap b y):Sim I5 w C B am fr ay A (binaryOp op x y) (fK op a b hh) as s:=by
 intro Q E h
 by_cases hop:op=.Add
 ·subst hop
  replace h:ai I5 w C B am fr ay as s (Ea a b hh) Q E:=h
  induction a using V.casesOn with
  |int i=>
   obtain ⟨t,e1⟩:=ha.inv
   refine ai.opt h fun j hj h=>?_
   rw [V.int_of hj] at hb
   obtain ⟨u,e2⟩:=hb.inv
   rw [e1,e2]
   exact PySem.P.add_int (ai.here h0 h (.int _ _))
  |str z=>
   obtain ⟨t,e1⟩:=ha.inv
   refine ai.opt h fun j hj h=>h.ifr fun hs h=>?_
   rw [V.str_of hj] at hb
   obtain ⟨u,e2⟩:=hb.inv
   rw [e1,e2]
   refine SB.add (fun t' k=>?_) (aR (of_decide_eq_true hs))
   rw [mO]
   exact ai.here h0 h (.str _ _)
  |tup xs=>
   obtain ⟨p,us,e1,ta,ra⟩:=ha.inv
   refine ai.opt h fun j hj h=>h.ifr fun hs h=>?_
   rw [V.tup_of hj] at hb
   obtain ⟨p',ws,e2,tb,rb⟩:=hb.inv
   rw [e1,e2]
   exact xQ h0 ta tb ra rb (of_decide_eq_true (aV hs).1) (aV hs).2 h
  |ref m=>
   obtain ⟨p,hp,e1⟩:=ha.inv
   refine ai.opt h fun xs hx h=>ai.opt h fun n hn h=>ai.opt h fun ys hy h=>h.ifr fun hs h=>?_
   rw [V.ref_of hn] at hb
   obtain ⟨p',hp',e2⟩:=hb.inv
   obtain ⟨-,us,k,g,r⟩:=h0.R.list hp hx
   obtain ⟨-,ws,k',g',r'⟩:=h0.R.list hp' hy
   have hs:=of_decide_eq_true hs
   have lx:_=us.size:=r.length
   have ly:_=ws.size:=r'.length
   rw [e1,e2]
   refine PySem.P.add_list g g' ?_ (aR (by omega))
   exact ai.list (tk:=s.toks) (k:=0) h0 h (ak _) b7 (HU _ rfl) (by rw [Array.toList_append];exact r.append r')
  |_=>exact h.elim
 ·have e:fK op a b hh=bq (gF a b (si op)) fun i=>.ok (.int i) hh:=by rcases op with _|_<;>first|rfl|exact absurd rfl hop
  rw [e] at h
  refine h.opt fun r hr h=>?_
  obtain ⟨i,j,e1,e2,hr⟩:=nG hr
  rw [e1] at ha
  rw [e2] at hb
  obtain ⟨t,e1⟩:=ha.inv
  obtain ⟨u,e2⟩:=hb.inv
  rw [e1,e2]
  exact vg hop hr fun tk=>ai.here h0 h (.int _ _)
end
end
section
open W PyProof.Rows SeqAt
section
variable {I5:Program} {w:World} {C:CV} {P:PT} {K:Frag} {B:Heap} {fr:List Env} {own:Addr->Prop} {A:Around} {Q:Value->Shared->Prop} {E:Value->Shared->Prop} {as as':AS} {s s':Shared} {hh hh':H} {env:Env} {ρ:Loc} {cf:V->List V->PM V} {n:Nat}
theorem ja {α:Type} {l:List α} {k:Int} {v:α} (h:aC l k=some v):(-9223372036854775808 < k/\k < 9223372036854775808)/\∃j,seqIndex? k l.length=some j/\l[j]?=some v/\((0<=k/\j=k.toNat)\/(k < 0/\-(l.length:Int)<=k/\j=(k+l.length).toNat)):=by
 unfold aC at h
 by_cases hs:small k=false
 ·rw [if_pos hs] at h;exact aw h
 ·rw [if_neg hs] at h
  refine ⟨eQ (Bool.not_eq_false _▸hs),?_⟩
  unfold seqIndex?
  by_cases h0:0<=k
  ·rw [if_pos h0] at h
   obtain ⟨hlt,_⟩:=List.getElem?_eq_some_iff.mp h
   refine ⟨k.toNat,?_,h,.inl ⟨h0,rfl⟩⟩
   have h1:¬(k < 0):=by omega
   have h2:k < l.length:=by omega
   simp [h1,h0,h2]
  ·rw [if_neg h0] at h
   by_cases h1:0<=k+l.length
   ·rw [if_pos h1] at h
    refine ⟨(k+l.length).toNat,?_,h,.inr ⟨by omega,by omega,rfl⟩⟩
    have h2:k < 0:=by omega
    have h3:k+l.length < l.length:=by omega
    simp [h2,h1,h3]
   ·rw [if_neg h1] at h;exact aw h
theorem aj.look {h:Heap}:∀{xs:List V} {ys:List Value} {j:Nat} {v:V},aj as h xs ys->xs[j]?=some v->∃y,ys[j]?=some y/\am as h v y
 |[],_,_,_,_,e=>aw e
 |x::xs,_,j,v,r,e=>by
  obtain ⟨y,ys,rfl,r1,r2⟩:=r.inv
  rcases j with _|j
  ·exact ⟨y,rfl,be e▸r1⟩
  ·exact r2.look e
noncomputable abbrev lY (I5:Program) (w:World) (A:Around) (s₁:Shared) (x y:Value) (Q:Value->Shared->Prop) (E:Value->Shared->Prop) (s:Shared):Prop:=
 (∃T id,s₁.TypeIs x T/\typeLookup (.type T) "__getitem__" = pure (some (.builtin id)))/\wpAny (model I5 w) A (PySem.getItem x y) Q E s
theorem xi {p:Addr×Addr} {n:Nat} {xs:List V} {k:Int} {t:Tok} {v:V} (h0:aP I5 w C B fr as hh s) (hp:as[n]?=some p) (hx:hh[n]?=some (.list xs)) (hc:aC xs k=some v) (h:ai I5 w C B am fr ay as s (.ok v hh) Q E):lY I5 w A s (.ref p.1) (.int k t) Q E s:=by
 obtain ⟨hs,j,h1,h2,h3⟩:=ja hc
 obtain ⟨-,ys,k',g,ra⟩:=h0.R.obj n _ p hx hp
 have hz:xs.length=ys.size:=ra.length
 obtain ⟨y,hy,r⟩:=ra.look h2
 rw [Array.getElem?_toList] at hy
 refine ⟨⟨"list",_,(au g).typeIs,slot_list_getitem.lookup⟩,?_⟩
 rcases h3 with ⟨k0,e⟩|⟨k0,k1,e⟩
 ·rw [e] at hy
  exact wpAny_getItem_list (au g) k0 hs.2 hy (h.now h0 r)
 ·rw [e,hz] at hy
  exact wpAny_getItem_list_neg (au g) k0 (by omega) (by omega) hy (h.now h0 r)
theorem xj {p:Addr×Addr} {n:Nat} {es:List (Key×V)} {b v:V} {y:Value} (hu:A.units+1 < cLine) (h0:aP I5 w C B fr as hh s) (hp:as[n]?=some p) (hx:hh[n]?=some (.dict es)) (hb:am as s.heap b y)
  (hc:((dy b es).bind fun q=>es.lookup q)=some v) (h:ai I5 w C B am fr ay as s (.ok v hh) Q E):lY I5 w A s (.ref p.1) y Q E s:=by
 refine a8 hc fun q hk hq=>?_
 obtain ⟨-,r⟩:=h0.R.obj n _ p hx hp
 obtain ⟨h1,h2⟩:=iz hk
 rcases q with z|ks
 ·rw [show b=_ from h1] at hb
  obtain ⟨kvs,D,S⟩:=lS r h2
  have hl:=S.look z
  rw [hq] at hl
  obtain ⟨y',hy,rv⟩:=hl
  obtain ⟨t,e⟩:=hb.inv
  rw [e]
  exact ⟨⟨"dict",_,D.typeIs,slot_dict_getitem.lookup⟩,wpAny_getItem_of (bO z _) D.mapOf hy (ai.here h0 h rv)⟩
 ·obtain ⟨xs,e1,hm⟩:=h1
  rw [e1] at hb
  obtain ⟨rows,D,S⟩:=sZ r h2
  have hl:=S.look ks
  rw [hq] at hl
  obtain ⟨a',y',hy,rv⟩:=hl
  obtain ⟨p',ys,e,tb,rb⟩:=hb.inv
  rw [e]
  exact ⟨⟨"dict",_,D.typeIs,slot_dict_getitem.lookup⟩,wpAny_getItem_heap (knd:=tupleKind (eG I5 w)) hu (eo hm tb rb) D hy (ai.here h0 h rv)⟩
theorem o7 {a b:V} {x y:Value} (hu:A.units+1 < cLine) (h0:aP I5 w C B fr as hh s) (ha:am as s.heap a x) (hb:am as s.heap b y):
  ∀Q E,ai I5 w C B am fr ay as s (getItem a b hh) Q E->lY I5 w A s x y Q E s:=by
 intro Q E h'
 refine h'.ask fun v e h=>?_
 clear h'
 induction a using V.casesOn with
 |str z=>
  obtain ⟨t,e1⟩:=ha.inv
  refine a8 e fun k hk e=>?_
  refine aW e fun c hc e=>?_
  rw [V.int_of hk] at hb
  obtain ⟨u,e2⟩:=hb.inv
  obtain ⟨hs,j,h1,h2,_⟩:=ja hc
  rw [e1,e2]
  rw [<-e] at h
  exact ⟨⟨"str",_,typeIs_str _ _ _,F.slot_str_getitem.lookup⟩,PySem.P.getItem_str (c:=c) (by simp;omega) (by rw [show (ah z).length=z.length from rfl,h1];simpa using h2) (ai.here h0 h (.str [c] _))⟩
 |tup xs=>
  obtain ⟨p,ys,e1,ta,ra⟩:=ha.inv
  refine a8 e fun k hk hc=>?_
  rw [V.int_of hk] at hb
  obtain ⟨u,e2⟩:=hb.inv
  obtain ⟨hs,j,h1,h2,_⟩:=ja hc
  obtain ⟨y',hy,r⟩:=ra.look h2
  rw [e1,e2]
  exact ⟨⟨"tuple",_,ta.to.typeIs,slot_tuple_getitem.lookup⟩,getItem_tuple ta.to (by omega) hs.2 (j:=j) (x:=y') (h1▸congrArg (seqIndex? k) ra.length.symm) (List.getElem?_toArray.trans hy) (h.now h0 r)⟩
 |ref n=>
  obtain ⟨p,hp,e1⟩:=ha.inv
  refine a8 e fun o ho e=>?_
  rw [e1]
  rcases o with xs|es|_
  ·refine a8 e fun k hk hc=>?_
   rw [V.int_of hk] at hb
   obtain ⟨u,e2⟩:=hb.inv
   rw [e2]
   exact xi h0 hp ho hc h
  ·exact xj hu h0 hp ho hb e h
  ·exact aw e
 |_=>exact aw e
inductive lK:V->Option (Int×Tok)->Prop
 |none:lK .none .none
 |int (i:Int) (t:Tok):lK (.int i) (some (i,t))
theorem hV {h:Heap} {v:V} {x:Value} {n d a:Nat} (r:am as h v x) (e:fu n d v=some a):∃p,lK v p/\x=partValue p:=by
 unfold fu at e
 by_cases c:v.isNone=true
 ·rw [V.isNone_of c] at r⊢
  exact ⟨_,.none,r.inv⟩
 ·rw [if_neg c] at e
  refine aW e fun i hi Z=>?_
  rw [V.int_of hi] at r⊢
  obtain ⟨t,e1⟩:=r.inv
  exact ⟨_,.int i t,e1⟩
theorem lK.isPart {v:V} {p} (c:lK v p):IsPart (partValue p) (p.map (·.1)):=by
 cases c
 ·exact .none
 ·exact .int _ _
theorem x0 (m n:Nat):min (m:Int) n=((min m n:Nat):Int):=by
 rcases Nat.le_total m n with q|q
 ·rw [Int.min_eq_left (Int.ofNat_le.mpr q),Nat.min_eq_left q]
 ·rw [Int.min_eq_right (Int.ofNat_le.mpr q),Nat.min_eq_right q]
theorem iC (n:Nat) (i:Int):max 0 (min (if i < 0 then i+(n:Int) else i) n)=(bo n i:Nat)/\bo n i<=n:=by
 unfold bo
 by_cases h:i < 0
 ·rw [if_pos h,if_pos h,Int.min_eq_left (by omega),Int.max_comm]
  exact ⟨(Int.toNat_eq_max _).symm,by omega⟩
 ·rw [if_neg h,if_neg h]
  obtain ⟨m,rfl⟩:=Int.eq_ofNat_of_zero_le (Int.not_lt.mp h)
  exact ⟨(Int.max_eq_right (Int.le_min.mpr ⟨Int.natCast_nonneg m,Int.natCast_nonneg n⟩)).trans (x0 m n),Nat.min_le_right m n⟩
theorem lK.bound {v:V} {p} {n d c:Nat} (cv:lK v p) (hd:d<=n) (e:fu n d v=some c):c<=n/\(match p.map (·.1) with|.none=>(d:Int)|.some i=>max 0 (min (if i < 0 then i+(n:Int) else i) n))=(c:Int):=by
 cases cv with
 |none=>rw [<-be e];exact ⟨hd,rfl⟩
 |int i t=>rw [<-be e];exact ⟨(iC n i).2,(iC n i).1⟩
theorem kl {lo hi:V} {p q} {n a b:Nat} (c:lK lo p) (d:lK hi q) (e:fu n 0 lo=some a) (f:fu n n hi=some b):
  sliceBounds (p.map (·.1)) (q.map (·.1)) none n=((a:Int),(b:Int),1)/\a<=n/\b<=n:=by
 obtain ⟨k1,k2⟩:=c.bound (Nat.zero_le _) e
 obtain ⟨k3,k4⟩:=d.bound (HM _) f
 exact ⟨Prod.ext k2 (Prod.ext k4 rfl),k1,k3⟩
theorem iY {α:Type} {l:List α} {lo hi:V} {t:List α} (e:fU l lo hi=some t):∃a b,fu l.length 0 lo=some a/\fu l.length l.length hi=some b/\l.length<=100000/\t=(l.take b).drop a:=by
 refine a8 e fun a h1 e=>?_
 refine a8 e fun b h2 e=>?_
 refine aJ e fun h3 e=>?_
 exact ⟨a,b,h1,h2,of_decide_eq_true h3,(be e).symm⟩
theorem dw (l u:Option Int) (n:Nat):Builtin.Str.strSliceIndices l u 1 n=sliceRange (sliceBounds l u none n).1 (sliceBounds l u none n).2.1 1:=by
 rcases l with _|_<;>rcases u with _|_<;>rfl
theorem mx {a b:Nat} (hab:a<=b):sliceRange (a:Int) (b:Int) 1=(List.range (b - a)).map (fun k=>a+k):=by
 rw [<-StrLaws.strSliceIndices_plain hab (HM b),dw]
 congr 1
 ·exact ((iC b a).1.trans (by unfold bo;rw [if_neg (by omega)];exact congrArg _ (Nat.min_eq_left hab))).symm
 ·exact ((iC b b).1.trans (by unfold bo;rw [if_neg (by omega)];exact congrArg _ (Nat.min_eq_left (HM b)))).symm
theorem jY {a b:Nat} (hab:b<=a):sliceRange (a:Int) (b:Int) 1=[]:=by
 unfold sliceRange
 rw [if_pos (by decide),if_neg (by omega)]
 rfl
theorem AM {x:List Nat} {lo hi:V} {p q} {t:List Nat} (c:lK lo p) (d:lK hi q) (e:fU x lo hi=some t):
  (Builtin.Str.strSliceIndices (p.map (·.1)) (q.map (·.1)) 1 (ah x).length).filterMap ((ah x).cps[·]?)=t/\((Builtin.Str.strSliceIndices (p.map (·.1)) (q.map (·.1)) 1 (ah x).length).length=x.length->t=x)/\t.length<=x.length/\x.length<=100000:=by
 obtain ⟨a,b,ha,hb,hl,rfl⟩:=iY e
 obtain ⟨k1,k2,k3⟩:=kl c d ha hb
 rw [dw,show (ah x).length=x.length from rfl,k1]
 refine ⟨?_,fun hz=>?_,by rw [List.length_drop,List.length_take];exact HN (Nat.sub_le _ _) (Nat.min_le_right _ _),hl⟩
 ·show (sliceRange (a:Int) (b:Int) 1).filterMap _=_
  by_cases hab:a<=b
  ·rw [mx hab,List.drop_take]
   rw [show ((ah x).cps[·]?)=(x[·]?) from funext fun y=>List.getElem?_toArray]
   exact StrLaws.picks x (b - a) a (by rw [Nat.add_sub_of_le hab];exact k3)
  ·rw [jY (by omega)]
   exact (HR (by rw [List.length_take];exact HN (Nat.min_le_left _ _) (Nat.le_of_not_le hab))).symm
 ·replace hz:(sliceRange (a:Int) (b:Int) 1).length=x.length:=hz
  by_cases hab:a<=b
  ·rw [mx hab,on,List.length_range] at hz
   rw [show a=0 by omega,List.drop_zero]
   exact List.take_of_length_le (hz▸Nat.sub_le b a)
  ·rw [jY (by omega)] at hz
   rw [List.length_eq_zero_iff.mp hz.symm,List.take_nil,List.drop_nil]
theorem qf {items:Array Value} {α:Type} {l:List α} {lo hi:V} {p q} {t:List α} (c:lK lo p) (d:lK hi q) (hl:l.length=items.size) (e:fU l lo hi=some t):
  ∃a b,t=(l.take b).drop a/\slicePick items (p.map (·.1)) (q.map (·.1)) none=((items.toList.take b).drop a).toArray:=by
 obtain ⟨a,b,ha,hb,hz,rfl⟩:=iY e
 obtain ⟨k1,k2,k3⟩:=kl c d ha hb
 rw [hl] at k1
 exact ⟨a,b,rfl,by rw [kmk_pick_nat _ k1,List.drop_take]⟩
theorem aj.take {h:Heap}:∀{xs:List V} {ys:List Value} (b:Nat),aj as h xs ys->aj as h (xs.take b) (ys.take b)
 |[],_,b,r=>by rw [show _=[] from r.inv,List.take_nil,List.take_nil];exact .nil
 |_::_,_,b,r=>by
  obtain ⟨y,ys,rfl,r1,r2⟩:=r.inv
  rcases b with _|b
  ·exact .nil
  ·exact .cons r1 (r2.take b)
theorem aj.drop {h:Heap}:∀{xs:List V} {ys:List Value} (a:Nat),aj as h xs ys->aj as h (xs.drop a) (ys.drop a)
 |[],_,b,r=>by rw [show _=[] from r.inv,List.drop_nil,List.drop_nil];exact .nil
 |_::_,_,b,r=>by
  obtain ⟨y,ys,rfl,r1,r2⟩:=r.inv
  rcases b with _|b
  ·exact .cons r1 r2
  ·exact r2.drop b
theorem aj.reverse {h:Heap}:∀{xs:List V} {ys:List Value},aj as h xs ys->aj as h xs.reverse ys.reverse
 |[],_,r=>by rw [show _=[] from r.inv];exact .nil
 |v::xs,_,r=>by
  obtain ⟨y,ys,rfl,r1,r2⟩:=r.inv
  rw [List.reverse_cons,List.reverse_cons]
  exact r2.reverse.append (.cons r1 .nil)
theorem v3 {a lo hi:V} {x y z:Value} (h0:aP I5 w C B fr as hh s) (ha:am as s.heap a x) (hlo:am as s.heap lo y) (hhi:am as s.heap hi z):
  ∀Q E,ai I5 w C B am fr ay as s (dp a lo hi hh) Q E->lY I5 w A { s with heap:=s.heap.push { cls:=.type "slice",data:=.fields #[y,z,.none] } } x (.ref s.heap.objs.size) Q E { s with heap:=s.heap.push { cls:=.type "slice",data:=.fields #[y,z,.none] } }:=by
 intro Q E h
 have iG:∀{α:Type} {l t:List α},fU l lo hi=some t->(∃p,lK lo p/\y=partValue p)/\∃q,lK hi q/\z=partValue q:=fun e=>by
  obtain ⟨a,b,h1,h2,_⟩:=iY e
  exact ⟨hV hlo h1,hV hhi h2⟩
 replace ha:=ha.inv
 induction a using V.casesOn with
 |str z'=>
  refine ai.opt h fun t ht h=>?_
  obtain ⟨tk,rfl⟩:=ha
  obtain ⟨⟨p,c1,rfl⟩,⟨q,c2,rfl⟩⟩:=iG ht
  refine ⟨⟨"str",_,typeIs_str _ _ _,F.slot_str_getitem.lookup⟩,?_⟩
  obtain ⟨hc,he,lt,lz⟩:=AM c1 c2 ht
  refine wpAny_getItem_str_slice (l:=p) (u:=q) (st:=none) ⟨_,HU _ rfl,rfl,rfl⟩ rfl ?_
  unfold sliceMade slicePicked
  show Made.post (if ((1:Int)==1&&(Builtin.Str.strSliceIndices (p.map (·.1)) (q.map (·.1)) 1 (ah z').length).length==(ah z').length)=true then _ else Made.str ⟨((Builtin.Str.strSliceIndices (p.map (·.1)) (q.map (·.1)) 1 (ah z').length).filterMap ((ah z').cps[·]?)).toArray⟩) _ _
  rw [hc]
  by_cases hb:((1:Int)==1&&(Builtin.Str.strSliceIndices (p.map (·.1)) (q.map (·.1)) 1 (ah z').length).length==(ah z').length)=true
  ·rw [if_pos hb]
   rw [he (eq_of_beq (aV hb).2)] at h
   have q:=ai.grown (s:=s) (tk:=s.toks) h0 h (ak { cls:=.type "slice",data:=.fields #[partValue p,partValue q,.none] }) (am.str z' tk)
   exact q
  ·rw [if_neg hb]
   have q:=ai.grown (s:=s) (tk:=s.toks+1) h0 h (ak { cls:=.type "slice",data:=.fields #[partValue p,partValue q,.none] }) (am.str t s.toks)
   exact ⟨aR (show t.length<=_ by omega),q⟩
 |ref n=>
  refine ai.opt h fun xs hx h=>ai.opt h fun t ht h=>?_
  obtain ⟨p',hp,rfl⟩:=ha
  obtain ⟨⟨p,c1,rfl⟩,⟨q,c2,rfl⟩⟩:=iG ht
  obtain ⟨-,ys,k',g,r⟩:=h0.R.list hp hx
  have hl:_=ys.size:=r.length
  have g':=ak { cls:=.type "slice",data:=.fields #[partValue p,partValue q,.none] } _ _ g
  obtain ⟨_,_,_,_,hz,_⟩:=iY ht
  obtain ⟨a,b,rfl,e⟩:=qf (items:=ys) c1 c2 hl ht
  refine ⟨⟨"list",_,(au g').typeIs,slot_list_getitem.lookup⟩,?_⟩
  refine wpAny_getItem_list_slice (au g') (Heap.IsSliceOf.new ..) c1.isPart c2.isPart .none nofun ?_ (aR (by omega))
  rw [e]
  exact ai.list (s:=s) (tk:=s.toks) (k:=0) h0 h (fun a o e=>ak _ _ _ (ak _ _ _ e)) (HW (by simp [Heap.push])) (HU _ rfl) ((r.take b).drop a)
 |_=>exact h.elim
end
end
section
open W PyProof.Rows SeqAt Builtin Builtin.ObjectAttr
section
variable {I5:Program} {w:World} {C:CV} {P:PT} {K:Frag} {B:Heap} {fr:List Env} {own:Addr->Prop} {A:Around} {Q:Value->Shared->Prop} {E:Value->Shared->Prop} {as as':AS} {s s':Shared} {hh hh':H} {env:Env} {ρ:Loc} {cf:V->List V->PM V} {n:Nat}
theorem CV.id_get {C:CV} {y:Str} {x:Nat} (h:C.id y=some x):C.ids[x]?=some y:=by
 unfold CV.id at h
 obtain ⟨hl,e,_⟩:=List.idxOf?_eq_some_iff.mp h
 rw [HJ hl,e]
structure xR (K:Frag) (C:CV) (c:Addr) (ci:iK):Prop where
 over:plainOver K c=true
 has:hasDictIn K c=true
 get:∀y,plainGet K c y=true
 set:findIn K (.ref c) "__setattr__" = some (some (.builtin "object.__setattr__"))
 makes:makesIn K c=true
 init:findIn K (.ref c) "__init__" = some (some (.ref ci.init))
 initFn:isFn K (.ref ci.init)=true
 name:∀y x,C.id y=some x->takerIn K c y=some none/\match ci.meths.lookup x with
  |some f=>findIn K (.ref c) y=some (some (.ref f))/\isFn K (.ref f)=true
  |none=>findIn K (.ref c) y=some none
theorem li {c:Addr} {ci:iK} (h:yY K C c ci=true):xR K C c ci:=by
 refine a7 h fun h h8=>?_
 refine a7 h fun h h7=>?_
 refine a7 h fun h h6=>?_
 refine a7 h fun h h5=>?_
 refine a7 h fun h h4=>?_
 refine a7 h fun h h3=>?_
 refine a7 h fun h1 h2=>?_
 refine ⟨h1,h2,fun Z=>h3,eq_of_beq h4,h5,eq_of_beq h6,h7,fun y x hxy=>?_⟩
 have e:=CV.id_get hxy
 have q:=List.all_eq_true.mp h8 x (List.mem_range.mpr (List.getElem?_eq_some_iff.mp e).1)
 rw [e] at q
 refine a7 q fun q1 q2=>?_
 refine ⟨eq_of_beq q1,?_⟩
 revert q2
 rcases ci.meths.lookup x with _|f
 ·exact fun q=>eq_of_beq q
 ·exact fun q=>⟨eq_of_beq (aV q).1,(aV q).2⟩
theorem qj {c:Addr} {x:Nat} (h:lP P c x=true):∃ci,P.cl.lookup c=some ci/\ci.exc=false/\ci.meths.lookup x=none:=by
 unfold lP at h
 rcases hc:P.cl.lookup c with _|ci
 ·rw [hc] at h;injection h
 ·rw [hc] at h
  exact ⟨ci,rfl,(Bool.not_eq_true' _).mp (aV h).1,cG (aV h).2⟩
structure eb (C:CV) (as:AS) (h:Heap) (p:Addr×Addr) (c:Addr) (fs:List (Nat×V)) (o:Obj) (m:Str->Option Value):Prop where
 ne:p.2≠p.1
 at_:h.get? p.1=some (instObj c p.2)
 dict:h.get? p.2=some o
 cls:o.cls=.type "dict"
 ns:h.Ns1 p.2 m
 within:Within m C.ids
 vals:∀x y,C.id y=some x->match fs.lookup x with
    |some v=>∃z,m y=some z/\am as h v z
    |none=>m y=none
theorem bW.inst {h:Heap} (R:bW I5 w C B as hh h) {n:Nat} {p:Addr×Addr} {i:Addr×List (Nat×V)} (hp:as[n]?=some p) (hn:rZ hh n=some i):∃o m,eb C as h p i.1 i.2 o m:=by
 obtain ⟨e,g,⟨o,g2,c2⟩,m,hns,hwi,hf⟩:=R.obj n _ _ (Ag hn) hp
 exact ⟨o,m,e,g,g2,c2,hns,hwi,hf⟩
theorem eb.instAt {h:Heap} {p:Addr×Addr} {c:Addr} {fs:List (Nat×V)} {o:Obj} {m:Str->Option Value} (I:eb C as h p c fs o m):InstAt h p.1 (instObj c p.2) c (some o):=
 ⟨I.at_,rfl,rfl,I.dict⟩
theorem eb.look {h:Heap} {p:Addr×Addr} {c:Addr} {fs:List (Nat×V)} {o:Obj} {m:Str->Option Value} (I:eb C as h p c fs o m) (y:Str):lookIn y o=some (m y):=by
 obtain ⟨o',es,ep,g,d,k,u,f⟩:=I.ns
 rw [I.dict] at g
 cases g
 unfold lookIn
 rw [d]
 dsimp only
 have e1:es.toList.find? (·.key.isStr y)=es.find? (·.key.isStr y):=by rw [Array.find?_toList]
 have e2:(es.find? (·.key.isStr y)).map (·.val)=m y:=f y
 rw [e1]
 cases hq:es.find? (·.key.isStr y) with
 |some e=>rw [hq] at e2;simp only [Option.map_some] at e2;rw [<-e2]
 |none=>
  rw [hq] at e2
  simp only [Option.map_none] at e2
  rw [<-e2]
  have:es.toList.any (·.refKey)=false:=by
   rw [List.any_eq_false]
   intro e he
   obtain ⟨n,t,hk⟩:=k e (Array.mem_toList_iff.mp he)
   simp [DictEntry.refKey,hk]
  rw [this]
  rfl
theorem vu {h:Heap} {v:V} {x:Value} (r:am as h v x) (hb:Bi v=false):handedIn x=true:=by cases r<;>first|rfl|injection hb
theorem o8 {a:V} {x:Value} {i:Nat} {y:Str} {e:Bool} (FX:aU C P B K) (h0:aP I5 w C B fr as hh s) (ha:am as s.heap a x) (hy:C.id y=some i):Sim I5 w C B am fr ay A (PySem.getAttr x y e) (getAttr P a i hh) as s:=by
 intro Q E h
 refine ai.opt h fun n hr h=>ai.opt h fun j hn h=>ai.opt h fun v hv h=>ai.ifr h fun hc h=>?_
 rw [V.ref_of hr] at ha
 obtain ⟨p,hp,rfl⟩:=ha.inv
 refine a7 hc fun hc hb=>?_
 obtain ⟨ci,hci,hex,hme⟩:=qj hc
 have CF:=li (FX.cls _ ci hci hex)
 obtain ⟨o,m,I⟩:=h0.R.inst hp hn
 have X:=FX.frag.keeps h0.R.base
 have hf:=(CF.name y i hy).2
 rw [hme] at hf
 have hz:=I.vals i y hy
 rw [hv] at hz
 obtain ⟨z,hz,rv⟩:=hz
 exact get_value X I.instAt (plainGet_of (CF.get y)).1 (findObj_own CF.has hf rfl (by rw [I.look,hz])) (vu rv ((Bool.not_eq_true' _).mp hb)) (ai.here h0 h rv)
theorem ln {x:Nat} {v:V} {e:Nat×V} {r:List (Nat×V)}:b4 x v (e::r)=if e.1=x then (x,v)::r else e::b4 x v r:=rfl
theorem jo {fs:List (Nat×V)} {x y:Nat} {v:V}:(b4 x v fs).lookup y=if y=x then some v else fs.lookup y:=by
 induction fs with
 |nil=>
  show List.lookup y [(x,v)]=_
  rw [so]
  by_cases h:y=x
  ·rw [if_pos h,h,beq_self_eq_true]
  ·rw [if_neg h,dO h]
 |cons e r ih=>
  obtain ⟨k,u⟩:=e
  rw [ln]
  by_cases hk:k=x
  ·rw [if_pos hk,so,so,hk]
   by_cases h:y=x
   ·rw [if_pos h,h,beq_self_eq_true]
   ·rw [if_neg h,dO h]
  ·rw [if_neg hk,so,so,ih]
   by_cases h:y=k
   ·rw [h,beq_self_eq_true];exact (if_neg hk).symm
   ·rw [dO h]
theorem gr {M:Model} {Γ:Ctx} {a:Addr} {name:Str} {v:Value} {o:Obj} {es:Array DictEntry} {ep:Nat} {p:Pos} {Q:Unit->Pos->Shared->Prop} {E:Value->Pos->Shared->Prop} (ho:s.heap.get? a=some o) (hd:o.data=.dict es ep) (hk:es.any (·.refKey)=false):
  Sem.wp M Γ (nsSet a name v) Q E p s↔((s.heap.get? a).isSome=true/\Q () p { s with heap:=s.heap.update a (Obj.putName name (hashStr M.w name) (.str name s.toks) v),toks:=s.toks+1 }):=by
 simp only [nsSet,strHash,Sem.wp_bind',Sem.wp_cmd_ask,Sem.wp_pure',Sem.wp_cmd_mkText]
 rw [Sem.wp_loadPart_of M Γ _ p { s with toks:=s.toks+1 } (o:=o) _ ho]
 simp only [hd,aRefKeyMayBeTheName_eq,aRefKeyMayBeTheNameByArray,hk,Bool.and_false,Bool.false_eq_true,if_false,Sem.wp_cmd_updatePart]
 exact Iff.rfl
theorem yh {name:Str} {o:Obj} {es:Array DictEntry} {ep:Nat} {k x:Value} {hs:Int} (hd:o.data=.dict es ep):(Obj.putName name hs k x o).cls=o.cls/\(Obj.putName name hs k x o).isFreed=false/\∃es' ep',(Obj.putName name hs k x o).data=.dict es' ep'/\es.size<=es'.size/\(es.size=es'.size->ep=ep'):=by
 obtain ⟨c,d,dt,sl⟩:=o
 subst hd
 rw [Obj.putName_eq]
 unfold Obj.putNameByArray
 dsimp only
 cases es.findIdx? (·.key.isStr name) with
 |some i=>exact ⟨rfl,rfl,_,_,rfl,Nat.le_of_eq (Array.size_modify ..).symm,fun Z=>rfl⟩
 |none=>exact ⟨rfl,rfl,_,_,rfl,by rw [Array.size_push];exact Nat.le_succ _,fun e=>by rw [Array.size_push] at e;exact absurd e (HO (HS _))⟩
theorem w9 {es:Array DictEntry} (hk:StrKeys es):es.any (·.refKey)=false:=by
 rw [Array.any_eq_false']
 intro e he
 obtain ⟨n,t,h⟩:=hk e he
 simp [DictEntry.refKey,h]
theorem k8 {M:Model} {a:Addr} {m:Str->Option Value} {name:Str} {v:Value} {o:Obj} {Q:Unit->Shared->Prop} (hn:s.heap.Ns1 a m) (ho:s.heap.get? a=some o)
  (hQ:∀h' o',h'.Ns1 a (fun x=>if x=name then some v else m x)->Heap.SameBut a s.heap h'->h'.get? a=some o'->o'.cls=o.cls->dA s.heap h' a->Q () { s with heap:=h',toks:=s.toks+1 }):
  wpAny M A (nsSet a name v) Q E s:=fun Γ p Z=>by
 have base:=Sem.wp_nsSet1 M Γ (fun Z Z Z=>True) p s hn name v (fun Z Z s'=>s'.heap.Ns1 a (fun x=>if x=name then some v else m x)) (fun h' x Z=>x)
 obtain ⟨o',es,ep,ho',hd,hk,_⟩:=hn
 obtain rfl:=be (ho'.symm.trans ho)
 have b:=(gr ho' hd (w9 hk)).1 base
 obtain ⟨c1,c2,es',ep',d',l,e⟩:=yh (name:=name) (k:=.str name s.toks) (x:=v) (hs:=hashStr M.w name) hd
 have g':=HX (h:=s.heap) (Obj.putName name (hashStr M.w name) (.str name s.toks) v) ho c2
 refine (gr ho' hd (w9 hk)).2 ⟨b.1,hQ _ _ b.2 (Heap.SameBut.update ..) g' c1 fun o1 es1 ep1 g1 k1 d1=>?_⟩
 obtain rfl:=be (g1.symm.trans ho)
 obtain ⟨rfl,rfl⟩:=Data.dict.inj (d1.symm.trans hd)
 exact ⟨_,es',ep',g',c1.trans k1,d',l,e⟩
theorem vk {M:Model} {a:Addr} {m:Str->Option Value} {name:Str} {v:Value} {o:Obj} {Q:Unit->Shared->Prop} (hn:s.heap.Ns a m) (ho:s.heap.get? a=some o)
  (hQ:∀h' o',h'.Ns a (fun x=>if x=name then some v else m x)->Heap.SameBut a s.heap h'->h'.get? a=some o'->o'.cls=o.cls->Q () { s with heap:=h',toks:=s.toks+1 }):
  wpAny M A (nsSet a name v) Q E s:=fun Γ p Z=>by
 have base:=Sem.wp_nsSet M Γ (fun Z Z Z=>True) p s hn name v (fun Z Z s'=>s'.heap.Ns a (fun x=>if x=name then some v else m x)) (fun h' x Z=>x)
 obtain ⟨o',es,ep,ho',hd,hk,_⟩:=hn
 obtain rfl:=be (ho'.symm.trans ho)
 have b:=(gr ho' hd (w9 hk)).1 base
 obtain ⟨c1,c2,-⟩:=yh (name:=name) (k:=.str name s.toks) (x:=v) (hs:=hashStr M.w name) hd
 exact (gr ho' hd (w9 hk)).2 ⟨b.1,hQ _ _ b.2 (Heap.SameBut.update ..) (HX _ ho c2) c1⟩
theorem eb.put {h h':Heap} {p:Addr×Addr} {c:Addr} {fs:List (Nat×V)} {o oD:Obj} {m:Str->Option Value} {i:Nat} {y:Str} {v:V} {z:Value} (I:eb C as h p c fs o m) (hy:C.id y=some i) (rv:am as h v z)
  (hn:h'.Ns1 p.2 (fun x=>if x=y then some z else m x)) (hs:Heap.SameBut p.2 h h') (hwi:Within (fun x=>if x=y then some z else m x) C.ids) (hoD:h'.get? p.2=some oD) (cD:oD.cls=o.cls):qq I5 w C as h' (.inst c (b4 i v fs)) p:=by
 have mv:∀{v x},am as h v x->am as h' v x:=(am.mono' (as':=as) ⟨[],(th as).symm⟩ fun a o e sd=>by
  refine (hs.2 a fun ea=>?_).trans e
  rw [ea,I.dict] at e
  (injection e with e;subst e)
  rcases sd with ⟨k,_⟩|⟨k,_⟩
  ·exact absurd (k.symm.trans I.cls) (by decide)
  ·exact absurd (k.symm.trans I.cls) (by decide)).1
 refine ⟨I.ne,(hs.2 p.1 I.ne.symm).trans I.at_,⟨oD,hoD,cD.trans I.cls⟩,_,hn,hwi,fun j u hu=>?_⟩
 rw [jo]
 have hv:=I.vals j u hu
 by_cases hj:j=i
 ·subst hj
  rw [if_pos rfl]
  exact ⟨z,if_pos (CV.id_inj hu hy),mv rv⟩
 ·have hne:u≠y:=fun e=>hj (be (hu.symm.trans (e▸hy)))
  rw [if_neg hj]
  rcases hl:fs.lookup j with _|v'
  ·rw [hl] at hv;exact (if_neg hne).trans hv
  ·rw [hl] at hv;obtain ⟨z',e',r'⟩:=hv;exact ⟨z',(if_neg hne).trans e',mv r'⟩
theorem fT {a v:V} {x z:Value} {i:Nat} {y:Str} (FX:aU C P B K) (h0:aP I5 w C B fr as hh s) (ha:am as s.heap a x) (hv:am as s.heap v z) (hy:C.id y=some i):
  Sim I5 w C B (fun _ _ (_:Unit) (_:Unit)=>True) fr ay A (PySem.setAttr x y z) (setAttr P a i v hh) as s:=by
 intro Q E h
 refine ai.opt h fun n hr h=>ai.opt h fun j hn h=>ai.ifr h fun hc h=>?_
 rw [V.ref_of hr] at ha
 obtain ⟨p,hp,rfl⟩:=ha.inv
 obtain ⟨ci,hci,hex,hme⟩:=qj hc
 have CF:=li (FX.cls _ ci hci hex)
 obtain ⟨o,m,I⟩:=h0.R.inst hp hn
 have X:=FX.frag.keeps h0.R.base
 refine set_plain X I.instAt CF.set (osa_open (s:={ s with toks:=s.toks+1 }) X I.instAt CF.over (CF.name y i hy).1 fun b=>?_)
 obtain ⟨cd,hcd,hd'⟩:=any_some CF.has
 have X1:K.In ({ s with toks:=s.toks+1 }:Shared).heap:=X
 refine wpAny_bind (wpAny_pure (wpAny_bind (wpAny_bind (wpAny_loadPart I.at_ (wpAny_bind ((looks_clsIn X1 hcd).here ?_))))))
 rw [hd']
 refine wpAny_pure (a:=some p.2) ?_
 unfold storeInDict newKeyGuard
 refine wpAny_bind (wpAny_pure (wpAny_bind (k8 I.ns I.dict fun h' oD' hn' hs hoD' cD' hE=>?_)))
 have hwi:Within (fun x=>if x=y then some z else m x) C.ids:=fun u hu=>by
  by_cases e:u=y
  ·rw [e];exact we (CV.id_get hy)
  ·exact I.within u fun q=>hu ((if_neg e).trans q)
 obtain ⟨oD,esD,epD,hoD,hdD,hcD⟩:=hn'.count hwi
 have hids:=FX.ids
 refine wpAny_bind (wpAny_lookBehind hoD (by rw [hdD];exact pastItsLine_dict (HN hcD (by rw [sizeLine_eq];omega))) (wpAny_pure ?_))
 have g1:h'.get? p.1=some _:=(hs.2 p.1 I.ne.symm).trans I.at_
 exact h as { s with heap:=h',toks:=_ } () (aI.turn (p:=p) (s':={ s with heap:=h',toks:=_ }) h0 hp (fun a ob Z h2 g=>(hs.2 a h2).trans g) ⟨by rw [g1];rfl,by rw [hoD];rfl⟩ ⟨.keep fun o e=>(hs.2 p.1 I.ne.symm).trans e,hE⟩ (I.put hy hv hn' hs hwi hoD' cD') rfl rfl) trivial
end
end
section
open W PyProof.Rows SeqAt
section
variable {I5:Program} {w:World} {C:CV} {P:PT} {K:Frag} {B:Heap} {fr:List Env} {own:Addr->Prop} {A:Around} {Q:Value->Shared->Prop} {E:Value->Shared->Prop} {as as':AS} {s s':Shared} {hh hh':H} {env:Env} {ρ:Loc} {cf:V->List V->PM V} {n:Nat}
 {a b c:Expr} {pa pb pc:PE} {pos:Pos}
theorem aI.toks {s:Shared} (h0:aP I5 w C B fr as hh s) (tk:Nat):aI I5 w C B fr own as s as hh { s with toks:=tk }:=aI.grow (s':={ s with toks:=tk }) h0 (fun Z Z e=>e) rfl rfl
theorem xy {op:Operator} (ha:bh I5 w C P B fr A env ρ cf a pa) (hb:bh I5 w C P B fr A env ρ cf b pb):bh I5 w C P B fr A env ρ cf (.BinOp a op b pos) (.bin op pa pb):=by
 intro as hh s h0 N Q E h
 refine wpAny_BinOp (Sim.run h0 (ha as hh s h0 N) h fun v I9 I8 s₁ x Z p rv h=>?_)
 refine Sim.run p.here (hb _ _ _ p.here (N.post h0.R p)) h fun Iv Ig Ia I6 y Z I7 Ih h=>?_
 exact v4 I7.here (rv.post p.rel I7) Ih Q E h
theorem Di (ha:bh I5 w C P B fr A env ρ cf a pa):bh I5 w C P B fr A env ρ cf (.UnaryOp .USub a pos) (.neg pa):=by
 intro as hh s h0 N Q E h
 rw [arm_eval_UnaryOp]
 refine wpAny_bind (Sim.run h0 (ha as hh s h0 N) h fun v I9 I8 s₁ x Z p rv h=>wpAny_bind (wpAny_standAt (wpAny_holding (h.ask fun z hz h=>?_))))
 obtain ⟨i,hi,rfl⟩:=bQ hz
 rw [V.int_of hi] at rv
 obtain ⟨t,e⟩:=rv.inv
 rw [e]
 exact PyProof.Rows.neg_int (ai.here p.here h (.int _ _))
theorem Dh (ha:bh I5 w C P B fr A env ρ cf a pa):bh I5 w C P B fr A env ρ cf (.UnaryOp .Not a pos) (.not pa):=by
 intro as hh s h0 N Q E h
 rw [arm_eval_UnaryOp]
 refine wpAny_bind (Sim.run h0 (ha as hh s h0 N) h fun v I9 I8 s₁ x Z p rv h=>wpAny_bind (wpAny_standAt (wpAny_holding (not_of (h.ask fun z hz h=>?_)))))
 obtain ⟨q,hq,rfl⟩:=bQ hz
 exact fk p.rel rv hq fun tk=>ai.here p.here h (.bool _)
theorem ow {op:CmpOp} (FX:aU C P B K) (hu:A.units < cLine) (hm:(!behindInMarks op b)=true) (ha:bh I5 w C P B fr A env ρ cf a pa) (hb:bh I5 w C P B fr A env ρ cf b pb):bh I5 w C P B fr A env ρ cf (.Compare a [op] [b] pos) (.cmp pa op pb):=by
 intro as hh s h0 N Q E h
 refine wpAny_Compare1 (Sim.run h0 (ha as hh s h0 N) h fun v I9 I8 s₁ x Z p rv h=>?_) ((Bool.not_eq_true' _).mp hm)
 refine Sim.run p.here (hb _ _ _ p.here (N.post h0.R p)) h fun Iv Ig Ia I6 y Z I7 Ih h=>h.ask fun z hz h=>?_
 obtain ⟨q,hq,rfl⟩:=bQ hz
 exact cy FX I7.rel hu (rv.post p.rel I7) Ih hq fun tk=>ai.here I7.here h (.bool _)
theorem lm {op:CmpOp} (FX:aU C P B K) (hu:A.units < cLine) (hm:(!behindInMarks op b)=true) (ha:bh I5 w C P B fr A env ρ cf a pa) (hb:bh I5 w C P B fr A env ρ cf b pb):cg I5 w C P B fr A env ρ cf (.Compare a [op] [b] pos) (.cmp pa op pb):=by
 intro as hh s h0 N Q E h
 refine wpAny_isTrue_Compare1 (Sim.run h0 (ha as hh s h0 N) h fun v I9 I8 s₁ x Z p rv h=>?_) ((Bool.not_eq_true' _).mp hm)
 refine Sim.run p.here (hb _ _ _ p.here (N.post h0.R p)) h fun Iv Ig Ia I6 y Z I7 Ih h=>h.ask fun q hq h=>?_
 exact cy FX I7.rel hu (rv.post p.rel I7) Ih hq fun tk=>wpAny_truthy_bool (ai.here I7.here h rfl)
theorem xN (a:Expr):isT (∀(y:Str) (o:Sem Value),attributeBase a y env o=o) (eM a):=by
 induction a using Expr.casesOn with
 |Call f as kw pos=>
  induction f using Expr.casesOn with
  |Name=>
   rcases as with _|_
   ·rcases kw with _|_
    ·exact trivial
    ·exact fun Z Z=>rfl
   ·exact fun Z Z=>rfl
  |_=>exact fun Z Z=>rfl
 |_=>exact fun Z Z=>rfl
theorem uM {y:Str} {o:Sem Value} (hn:eM a=true):attributeBase a y env o=o:=(xN a).to hn y o
theorem mT {y:Str} {i:Nat} (FX:aU C P B K) (hi:C.id y=some i) (hn:eM a=true) (ha:bh I5 w C P B fr A env ρ cf a pa):bh I5 w C P B fr A env ρ cf (.Attribute a y pos) (.attr pa i):=by
 intro as hh s h0 N Q E h
 refine Attribute_any_ (Sim.run h0 (ha as hh s h0 N) h fun v I9 I8 s₁ x Z p rv h=>o8 FX p.here rv hi Q E h) ?_
 rw [arm_eval_Attribute,uM hn]
variable (I5 w C P B fr A env ρ cf) in
inductive dK:List Expr->List PE->Prop
 |nil:dK [] []
 |cons {e:Expr} {p:PE} {es:List Expr} {ps:List PE}:dB e=true->bh I5 w C P B fr A env ρ cf e p->dK es ps->dK (e::es) (p::ps)
theorem j5 {es:List Expr} (h:dB a=true):starEach (a::es) env=(false,eval a env)::starEach es env:=by
 rcases a with _|_<;>first|rfl|injection h
theorem cx {es:List Expr} {ps:List PE} (H:dK I5 w C P B fr A env ρ cf es ps):∀as hh s,aP I5 w C B fr as hh s->aF C env ρ as s.heap->
  Sim I5 w C B (fun as h vs ys=>aj as h vs ys/\ys.length=es.length) fr ay A (spliced (backTo pos (starEach es env))) (evs P cf ps ρ hh) as s:=by
 induction H with
 |nil=>exact fun as hh s h0 N Q E h=>Calls.spliced_nil (ai.now h h0 ⟨.nil,rfl⟩)
 |@cons e p es ps hs he _ ih=>
  intro as hh s h0 N Q E h
  rw [j5 hs]
  refine Calls.spliced_cons (Sim.run h0 (he as hh s h0 N) h fun v I9 I8 s₁ x Z p rv h=>?_)
  refine Sim.run p.here (ih _ _ _ p.here (N.post h0.R p)) h fun vs Ig Ia I6 ys Z I7 Ih h=>?_
  exact ai.now h I7.here ⟨.cons (rv.post p.rel I7) Ih.1,congrArg (·+1) Ih.2⟩
theorem xw {es:List Expr} {ps:List PE} {k:Nat} (hz:es.length<=1000) (H:dK I5 w C P B fr A env ρ cf es ps):bh I5 w C P B fr A env ρ cf (.Tuple es k pos) (.tup ps):=by
 intro as hh s h0 N Q E h
 refine wpAny_Tuple_spliced (Sim.run h0 (cx H as hh s h0 N) h fun vs I9 I8 s₁ ys hm p rv h=>⟨?_,?_⟩)
 ·rw [rv.2];exact aR (by omega)
 ·exact h.ifr fun hok h=>ai.tup (tk:=s₁.toks) p.here h (ak _) ⟨_,0,HU _ rfl,rfl,rfl,sH hok rv.1⟩ rv.1
theorem uE {es:List Expr} {ps:List PE} (hz:es.length<=1000) (H:dK I5 w C P B fr A env ρ cf es ps):bh I5 w C P B fr A env ρ cf (.List es pos) (.list ps):=by
 intro as hh s h0 N Q E h
 refine wpAny_List_spliced (Sim.run h0 (cx H as hh s h0 N) h fun vs I9 I8 s₁ ys hm p rv h=>⟨?_,?_⟩)
 ·rw [rv.2];exact aR (by omega)
 ·exact ai.ifr h fun hok h=>ai.list (tk:=s₁.toks) (k:=0) p.here h (ak _) b7 (HU _ rfl) rv.1
theorem uT (sl:Expr) (o i:Value):∃vs,subscripted sl false o i=operate vs (PySem.getItem o i):=by
 induction sl using Expr.casesOn with
 |Slice a b c p=>rcases c with _|_<;>exact ⟨_,rfl⟩
 |_=>exact ⟨_,rfl⟩
theorem kA {value slice:Expr} {o i:Value} (H:lY I5 w A s o i Q E s):wpAny (model I5 w) A (subscriptTail value slice o i) Q E s:=by
 obtain ⟨⟨T,id,hT,hl⟩,h⟩:=H
 unfold subscriptTail
 refine wpAny_bind ?_
 rw [getitemInPython_of_ne hT.not_modules]
 refine wpAny_bind (wpAny_specialOf hT hl ?_)
 have fin:wpAny (model I5 w) A (subscripted slice false o i) (fun r s₃=>wpAny (model I5 w) A (letTemporaryGo value o r >>= fun Z=>pure r) Q E s₃) E s:=by
  obtain ⟨vs,e⟩:=uT slice o i
  rw [e]
  exact wpAny_operating (wpAny_mono h (fun r s₃ Ic=>wpAny_bind (wpAny_letTemporaryGo (wpAny_pure Ic))) fun Z Z x=>x)
 first
  |exact wpAny_pure (wpAny_bind fin)
  |exact wpAny_bind (wpAny_pure (wpAny_bind fin))
  |exact wpAny_bind fin
theorem De (hu:A.units+1 < cLine) (ha:bh I5 w C P B fr A env ρ cf a pa) (hb:bh I5 w C P B fr A env ρ cf b pb):bh I5 w C P B fr A env ρ cf (.Subscript a b pos) (.sub pa pb):=by
 intro as hh s h0 N Q E h
 refine Subscript_ (Sim.run h0 (ha as hh s h0 N) h fun v I9 I8 s₁ x Z p rv h=>?_)
 refine Sim.run p.here (hb _ _ _ p.here (N.post h0.R p)) h fun Iv Ig Ia I6 y Z I7 Ih h=>?_
 exact kA (o7 hu I7.here (rv.post p.rel I7) Ih Q E h)
noncomputable abbrev lX (I5:Program) (w:World) (C:CV) (P:PT) (B:Heap) (fr:List Env) (A:Around) (env:Env) (ρ:Loc) (cf:V->List V->PM V) (e:Option Expr) (p:PE):Prop:=
 ∀as hh s,aP I5 w C B fr as hh s->aF C env ρ as s.heap->Sim I5 w C B am fr ay A (evalPart e env) (ev P cf p ρ hh) as s
theorem ui {p:PE} (h:Bh p=true):p=.none:=isT.to (by clear h;rcases p with _|_<;>first|exact trivial|exact rfl) h
theorem kE {e:Option Expr} {q:Expr->Bool} (h:e.elim (Bh pa) q=true) (k:∀x,q x=true->bh I5 w C P B fr A env ρ cf x pa):lX I5 w C P B fr A env ρ cf e pa:=by
 rcases e with _|x
 ·intro as hh s h0 N Q E h'
  rw [ui h] at h'
  exact wpAny_pure (ai.now h' h0 .none)
 ·exact k x h
theorem xr {lo hi:Option Expr} {p:Pos} (ha:bh I5 w C P B fr A env ρ cf a pa) (hlo:lX I5 w C P B fr A env ρ cf lo pb) (hhi:lX I5 w C P B fr A env ρ cf hi pc):bh I5 w C P B fr A env ρ cf (.Subscript a (.Slice lo hi none p) pos) (.slice pa pb pc):=by
 intro as hh s h0 N Q E h
 refine Subscript_ (Sim.run h0 (ha as hh s h0 N) h fun v I9 I8 s₁ x Z p rv h=>wpAny_Slice ?_)
 have Ii:=N.post h0.R p
 refine Sim.run p.here (hlo _ _ _ p.here Ii) h fun Iv Ig Ia I6 y Z I7 Ih h=>?_
 refine Sim.run I7.here (hhi _ _ _ I7.here (Ii.post p.rel I7)) h fun IX Ir Ik s₃ z Z Ib IE h=>?_
 rw [evalPart_none]
 exact wpAny_pure (kA (v3 Ib.here ((rv.post p.rel I7).post I7.rel Ib) (Ih.post I7.rel Ib) IE Q E h))
theorem Dg {k:Nat} {p1 p2 p:Pos} (ha:bh I5 w C P B fr A env ρ cf a pa):bh I5 w C P B fr A env ρ cf (.Subscript a (.Slice none none (some (.UnaryOp .USub (.Constant (.int 1) k p1) p2)) p) pos) (.rev pa):=by
 intro as hh s h0 N Q E h
 refine Subscript_ (Sim.run h0 (ha as hh s h0 N) h fun v I9 I8 s₁ x Z p rv h=>wpAny_Slice ?_)
 rw [evalPart_none,evalPart_some]
 refine wpAny_pure (wpAny_pure ?_)
 rw [arm_eval_UnaryOp]
 refine wpAny_bind (wpAny_Constant_int (wpAny_bind (wpAny_standAt (wpAny_holding (PyProof.Rows.neg_int ?_)))))
 refine ai.opt h fun n hn h=>ai.opt h fun xs hx h=>ai.ifr h fun hz h=>?_
 rw [V.ref_of hn] at rv
 obtain ⟨q,hp,rfl⟩:=rv.inv
 obtain ⟨-,ys,k',g,r⟩:=p.rel.list hp hx
 have hl:_=ys.size:=r.length
 have g':=ak { cls:=.type "slice",data:=.fields #[.none,.none,.int (-1) (s₁.toks+1)] } _ _ g
 refine kA ⟨⟨"list",_,(au g').typeIs,slot_list_getitem.lookup⟩,?_⟩
 refine wpAny_getItem_list_slice (st:=some (-1)) (au g') (Heap.IsSliceOf.new ..) .none .none (.int _ _) (by decide) ?_ (aR (hl▸of_decide_eq_true hz))
 rw [krv_pick]
 refine ai.list (s:=s₁) (tk:=s₁.toks+1+1) (k:=0) p.here h (fun a o e=>ak _ _ _ (ak _ _ _ e)) (HW (by simp [Heap.push])) (HU _ rfl) ?_
 exact r.reverse
theorem xx (hc:cg I5 w C P B fr A env ρ cf c pc) (ha:bh I5 w C P B fr A env ρ cf a pa) (hb:bh I5 w C P B fr A env ρ cf b pb):bh I5 w C P B fr A env ρ cf (.IfExp c a b pos) (.ite pc pa pb):=by
 intro as hh s h0 N Q E h
 refine wpAny_IfExp (Sim.runB h0 (hc as hh s h0 N) h fun q I9 I8 s₁ p h=>?_)
 rcases q with _|_
 ·exact hb _ _ _ p.here (N.post h0.R p) Q E h
 ·exact ha _ _ _ p.here (N.post h0.R p) Q E h
end
end
section
open W PyProof.Rows SeqAt
section
variable {I5:Program} {w:World} {C:CV} {P:PT} {K:Frag} {B:Heap} {fr:List Env} {own:Addr->Prop} {A:Around} {Q:Value->Shared->Prop} {E:Value->Shared->Prop} {as as':AS} {s s':Shared} {hh hh':H} {env:Env} {ρ:Loc} {cf:V->List V->PM V} {n:Nat}
 {a b c:Expr} {pa pb pc:PE} {pos:Pos}
theorem tX {op:BoolOp} {r:List Expr} (H:bh I5 w C P B fr A env ρ cf (jx op (b::r) pos) pb):bh I5 w C P B fr A env ρ cf (.BoolOp op (b::r) pos) pb:=by
 rcases r with _|_
 ·exact fun as hh s h0 N Q E h=>BoolOp_one (H as hh s h0 N Q E h)
 ·exact H
theorem Dk {r:List Expr} (ha:bh I5 w C P B fr A env ρ cf a pa) (hb:bh I5 w C P B fr A env ρ cf (jx .And (b::r) pos) pb):bh I5 w C P B fr A env ρ cf (.BoolOp .And (a::b::r) pos) (.and pa pb):=by
 intro as hh s h0 N Q E h
 refine BoolOp_and (Sim.run h0 (ha as hh s h0 N) h fun v I9 I8 s₁ x Z p rv h=>ai.opt h fun q hq h=>fk p.rel rv hq fun tk=>?_)
 have pg:=aI.toks (own:=ay) p.here tk
 rcases q with _|_
 ·exact ai.here (s:=s₁) p.here h rv
 ·exact tX hb _ _ _ pg.here ((N.post h0.R p).post p.rel pg) Q E (ai.after p.here pg h)
theorem BY {r:List Expr} (ha:bh I5 w C P B fr A env ρ cf a pa) (hb:bh I5 w C P B fr A env ρ cf (jx .Or (b::r) pos) pb):bh I5 w C P B fr A env ρ cf (.BoolOp .Or (a::b::r) pos) (.or pa pb):=by
 intro as hh s h0 N Q E h
 refine BoolOp_or (Sim.run h0 (ha as hh s h0 N) h fun v I9 I8 s₁ x Z p rv h=>ai.opt h fun q hq h=>fk p.rel rv hq fun tk=>?_)
 have pg:=aI.toks (own:=ay) p.here tk
 rcases q with _|_
 ·exact tX hb _ _ _ pg.here ((N.post h0.R p).post p.rel pg) Q E (ai.after p.here pg h)
 ·exact ai.here (s:=s₁) p.here h rv
theorem wu (ha:cg I5 w C P B fr A env ρ cf a pa):cg I5 w C P B fr A env ρ cf (.UnaryOp .Not a pos) (.not pa):=by
 intro as hh s h0 N Q E h
 rw [arm_isTrue_UnaryOp]
 refine wpAny_bind (Sim.run h0 (ha as hh s h0 N) h fun v I9 I8 s₁ x Z p rv h=>wpAny_pure (ai.now h p.here ?_))
 rw [show v=x from rv]
noncomputable abbrev B9 (I5:Program) (w:World) (C:CV) (P:PT) (B:Heap) (fr:List Env) (A:Around) (env:Env) (ρ:Loc) (cf:V->List V->PM V) (op:BoolOp) (es:List Expr) (p:PE):Prop:=
 ∀as hh s,aP I5 w C B fr as hh s->aF C env ρ as s.heap->Sim I5 w C B (fun _ _ (a b:Bool)=>a=b) fr ay A (allTrue op es env) (evT P cf p ρ hh) as s
theorem yL {op:BoolOp} {r:List Expr} (H:cg I5 w C P B fr A env ρ cf (jx op (b::r) pos) pb):B9 I5 w C P B fr A env ρ cf op (b::r) pb:=by
 rcases r with _|⟨c,r⟩
 ·intro as hh s h0 N Q E h
  rcases op with _|_
  ·refine wpAny_allTrue_And_cons (wpAny_mono (H as hh s h0 N Q E h) (fun q s₁ h=>?_) fun Z Z x=>x)
   rcases q with _|_
   ·exact h
   ·exact wpAny_allTrue_And_nil h
  ·refine wpAny_allTrue_Or_cons (wpAny_mono (H as hh s h0 N Q E h) (fun q s₁ h=>?_) fun Z Z x=>x)
   rcases q with _|_
   ·exact wpAny_allTrue_Or_nil h
   ·exact h
 ·intro as hh s h0 N Q E h
  have q:=H as hh s h0 N Q E h
  rw [show jx op (b::c::r) pos=.BoolOp op (b::c::r) pos from rfl,arm_isTrue_BoolOp] at q
  exact q
theorem true_and {r:List Expr} (ha:cg I5 w C P B fr A env ρ cf a pa) (hb:cg I5 w C P B fr A env ρ cf (jx .And (b::r) pos) pb):cg I5 w C P B fr A env ρ cf (.BoolOp .And (a::b::r) pos) (.and pa pb):=by
 intro as hh s h0 N Q E h
 refine wpAny_isTrue_BoolOp (wpAny_allTrue_And_cons (Sim.runB h0 (ha as hh s h0 N) h fun q I9 I8 s₁ p h=>?_))
 rcases q with _|_
 ·exact ai.now h p.here rfl
 ·exact yL hb _ _ _ p.here (N.post h0.R p) Q E h
theorem z9 {r:List Expr} (ha:cg I5 w C P B fr A env ρ cf a pa) (hb:cg I5 w C P B fr A env ρ cf (jx .Or (b::r) pos) pb):cg I5 w C P B fr A env ρ cf (.BoolOp .Or (a::b::r) pos) (.or pa pb):=by
 intro as hh s h0 N Q E h
 refine wpAny_isTrue_BoolOp (wpAny_allTrue_Or_cons (Sim.runB h0 (ha as hh s h0 N) h fun q I9 I8 s₁ p h=>?_))
 rcases q with _|_
 ·exact yL hb _ _ _ p.here (N.post h0.R p) Q E h
 ·exact ai.now h p.here rfl
theorem xu {op op2:CmpOp} (FX:aU C P B K) (hu:A.units < cLine) (hm:(!behindInMarks op2 c)=true) (ha:bh I5 w C P B fr A env ρ cf a pa) (hb:bh I5 w C P B fr A env ρ cf b pb) (hc:bh I5 w C P B fr A env ρ cf c pc):
  bh I5 w C P B fr A env ρ cf (.Compare a [op,op2] [b,c] pos) (.chain pa op pb op2 pc):=by
 intro as hh s h0 N Q E h
 refine Compare_chain (Sim.run h0 (ha as hh s h0 N) h fun v I9 I8 s₁ x Z p rv h=>?_) ((Bool.not_eq_true' _).mp hm)
 refine wpAny_bind (wpAny_holding (Sim.run p.here (hb _ _ _ p.here (N.post h0.R p)) h fun Iv Ig Ia I6 y Z I7 Ih h=>wpAny_bind (wpAny_standAt (wpAny_bind (wpAny_holding (ai.opt h fun q hq h=>?_))))))
 have Id:=(N.post h0.R p).post p.rel I7
 refine cy FX I7.rel hu (rv.post p.rel I7) Ih hq fun tk=>wpAny_bind (wpAny_release (wpAny_bind (wpAny_holding (wpAny_truthy_bool ?_))))
 have pg:=aI.toks (own:=ay) I7.here tk
 rcases q with _|_
 ·exact wpAny_pure (ai.here (s:=I6) I7.here h (.bool _))
 ·rw [if_pos rfl]
  refine wpAny_bind (wpAny_holding (Sim.run pg.here (hc _ _ _ pg.here (Id.post I7.rel pg)) (ai.after I7.here pg h) fun IX Ir Ik s₃ z Z Ib IE h=>wpAny_bind (wpAny_standAt (wpAny_operating (h.ask fun k hk h=>?_)))))
  obtain ⟨q,hq,rfl⟩:=bQ hk
  exact cy FX Ib.rel hu ((Ih.post I7.rel pg).post pg.rel Ib) IE hq fun tk=>ai.here Ib.here h (.bool _)
theorem qF {op op2:CmpOp} (FX:aU C P B K) (hu:A.units < cLine) (hm:(!behindInMarks op2 c)=true) (ha:bh I5 w C P B fr A env ρ cf a pa) (hb:bh I5 w C P B fr A env ρ cf b pb) (hc:bh I5 w C P B fr A env ρ cf c pc):
  cg I5 w C P B fr A env ρ cf (.Compare a [op,op2] [b,c] pos) (.chain pa op pb op2 pc):=by
 intro as hh s h0 N Q E h
 refine isTrue_chain (Sim.run h0 (ha as hh s h0 N) h fun v I9 I8 s₁ x Z p rv h=>?_) ((Bool.not_eq_true' _).mp hm)
 refine wpAny_bind (wpAny_holding (Sim.run p.here (hb _ _ _ p.here (N.post h0.R p)) h fun Iv Ig Ia I6 y Z I7 Ih h=>wpAny_bind (wpAny_standAt (wpAny_bind (wpAny_holding (ai.opt h fun q hq h=>?_))))))
 have Id:=(N.post h0.R p).post p.rel I7
 refine cy FX I7.rel hu (rv.post p.rel I7) Ih hq fun tk=>wpAny_bind (wpAny_release (wpAny_bind (wpAny_holding (wpAny_truthy_bool ?_))))
 have pg:=aI.toks (own:=ay) I7.here tk
 rcases q with _|_
 ·exact wpAny_pure (ai.here (s:=I6) I7.here h rfl)
 ·rw [if_pos rfl]
  refine wpAny_bind (wpAny_holding (Sim.run pg.here (hc _ _ _ pg.here (Id.post I7.rel pg)) (ai.after I7.here pg h) fun IX Ir Ik s₃ z Z Ib IE h=>wpAny_bind (wpAny_standAt (wpAny_bind (wpAny_operating (h.ask fun q hq h=>?_))))))
  exact cy FX Ib.rel hu ((Ih.post I7.rel pg).post pg.rel Ib) IE hq fun tk=>wpAny_holding (wpAny_truthy_bool (ai.here Ib.here h rfl))
theorem dR (he:bh I5 w C P B fr A env ρ cf a pa) (hs:isTrue a env (eval a env)=(do let v <-eval a env;standAt a.pos;holding [v] (PySem.truthy v)))
  (ht:∀hh,evT P cf pa ρ hh=(ev P cf pa ρ hh).bd fun v h=>eB (truthy v h) h):cg I5 w C P B fr A env ρ cf a pa:=by
 intro as hh s h0 N Q E h
 rw [ht] at h
 refine wpAny_isTrue_value (Sim.run h0 (he as hh s h0 N) h fun v I9 I8 s₁ x Z p rv h=>h.ask fun q hq h=>?_) hs
 exact fk p.rel rv hq fun tk=>ai.here (s:=s₁) p.here h rfl
theorem bw (h:∀hh,evT P cf pa ρ hh=.bad):cg I5 w C P B fr A env ρ cf a pa:=by
 intro as hh s h0 N Q E h'
 rw [h] at h'
 exact h'.elim
theorem bW.adopt {h h':Heap} {o:O} {D:Addr} (R:bW I5 w C B as hh h) (nb:B.get? D=none) (nf:¬foot as D) (hD:∃ob,h.get? D=some ob/\¬solid ob) (k:∀a ob,a≠D->h.get? a=some ob->h'.get? a=some ob)
  (q:qq I5 w C (as++[(D,D)]) h' o (D,D)):bW I5 w C B (as++[(D,D)]) (hh++[o]) h':=by
 have at_:∀{i:Nat} {q},(as++[(D,D)])[i]?=some q->(as[i]?=some q/\i < as.length)\/(i=as.length/\q=(D,D)):=fun {i q} e=>by
  rcases Nat.lt_trichotomy i as.length with c|c|c
  ·exact .inl ⟨by rwa [HK c] at e,c⟩
  ·subst c;right;simpa [eq_comm] using e
  ·rw [HQ (by simp;omega)] at e;injection e
 have apart:∀q∈as,z6 q (D,D):=fun q hq=>⟨fun e=>nf ⟨q,hq,.inl e.symm⟩,fun e=>nf ⟨q,hq,.inl e.symm⟩,fun e=>nf ⟨q,hq,.inr e.symm⟩,fun e=>nf ⟨q,hq,.inr e.symm⟩⟩
 have ks:∀a ob,h.get? a=some ob->solid ob->h'.get? a=some ob:=fun a ob e sd=>k a ob (fun z=>by
  subst z
  obtain ⟨ob',e',ns⟩:=hD
  rw [e] at e';(injection e' with e';subst e');exact ns sd) e
 refine ⟨fun a o e=>k a o (fun z=>by rw [z,nb] at e;injection e) (R.base a o e),by simp [R.len],fun q hq=>?_,fun i j a b ha hb hij=>?_,fun i o' p' ho hp=>?_⟩
 ·rcases List.mem_append.mp hq with hq|hq
  ·exact R.new q hq
  ·obtain rfl:=List.mem_singleton.mp hq;exact ⟨nb,nb⟩
 ·rcases at_ ha with ⟨ha',_⟩|⟨ha',rfl⟩<;>rcases at_ hb with ⟨hb',_⟩|⟨hb',rfl⟩
  ·exact R.apart i j a b ha' hb' hij
  ·exact apart a (we ha')
  ·obtain ⟨c1,c2,c3,c4⟩:=apart b (we hb')
   exact ⟨c1.symm,c3.symm,c2.symm,c4.symm⟩
  ·exact absurd (ha'.trans hb'.symm) hij
 ·rcases at_ hp with ⟨hp,c⟩|⟨c,rfl⟩
  ·rw [HK (by rw [<-R.len];exact c)] at ho
   have ap:=apart p' (we hp)
   refine (R.obj i o' p' ho hp).move (fun a ob e g=>k a ob ?_ g) (am.mono' (as':=as++[(D,D)]) ⟨_,rfl⟩ ks).1 (am.mono' (as':=as++[(D,D)]) ⟨_,rfl⟩ ks).2 fun a ob c d g=>ks a ob g (.inl ⟨c,d⟩)
   rcases e with rfl|rfl
   ·exact ap.1
   ·exact ap.2.2.1
  ·subst c
   rw [R.len,List.getElem?_append_right (HM _),Nat.sub_self] at ho
   (injection ho with ho;subst ho)
   exact q
theorem cC {h h':Heap}:∀{l:List Env},(∀e∈l,∀L,e.frame=some L->∀o,h.get? L=some o->h'.get? L=some o)->h.FunFrames B l->h'.FunFrames B l
 |[],_,_=>trivial
 |e::l,k,⟨hk,⟨L,ob,hf,hb,g,d⟩,r⟩=>⟨hk,⟨L,ob,hf,hb,k e (.head _) L hf ob g,d⟩,cC (fun e' he=>k e' (.tail _ he)) r⟩
theorem aI.adopt {s I6 s₃:Shared} {Ia:AS} {Ig:H} {D:Addr} {o:O} (h0:aP I5 w C B fr as hh s) (p:aI I5 w C B fr ay as s Ia Ig I6) (hD:s.heap.get? D=none)
  (nf:¬foot Ia D) (g:∃ob,I6.heap.get? D=some ob/\¬solid ob) (k:∀a ob,a≠D->I6.heap.get? a=some ob->s₃.heap.get? a=some ob) (q:qq I5 w C (Ia++[(D,D)]) s₃.heap o (D,D))
  (hg:s₃.gens=I6.gens) (ho:s₃.os=I6.os):aI I5 w C B fr ay as s (Ia++[(D,D)]) (Ig++[o]) s₃:=by
 have nb:B.get? D=none:=by
  rcases z:B.get? D with _|ob
  ·rfl
  ·have:=h0.R.base _ _ z;rw [hD] at this;injection this
 obtain ⟨⟨r,rfl,hr⟩,kp,lv,ee⟩:=p.step
 have ne:∀a ob,s.heap.get? a=some ob->a≠D:=fun a ob e z=>by subst z;rw [hD] at e;injection e
 refine ⟨⟨⟨r++[(D,D)],by simp,fun x hx=>?_⟩,fun a ob e nf no hx=>(fun ⟨o',g',H⟩=>⟨o',k a o' (ne a ob e) g',H⟩) (kp a ob e nf no hx),fun a e no=>?_,fun a no=>?_⟩,p.rel.adopt nb nf g k q,⟨?_,?_⟩,hg.trans p.gens,ho.trans p.os⟩
 ·rcases List.mem_append.mp hx with hx|hx
  ·exact hr x hx
  ·obtain rfl:=List.mem_singleton.mp hx;exact ⟨⟨hD,hD⟩,id,id⟩
 ·have:=lv a e no
  rcases z:I6.heap.get? a with _|ob
  ·rw [z] at this;injection this
  ·rcases z2:s.heap.get? a with _|ob2
   ·rw [z2] at e;injection e
   ·rw [k a ob (ne a ob2 z2) z];rfl
 ·by_cases z:a=D
  ·subst z;exact .none hD
  ·exact (ee a no).trans (.keep fun o e=>k a o z e)
 ·refine cC (fun e he L hL ob g=>?_) p.frs.1
  obtain ⟨L',ob',hL',g',_⟩:=h0.F.2 e he
  rw [hL] at hL';(injection hL' with hL';subst hL')
  exact k L ob (ne L ob' g') g
 ·intro env he
  obtain ⟨L,ob,hL,g',c⟩:=p.frs.2 env he
  obtain ⟨L',ob',hL',g2,_⟩:=h0.F.2 env he
  rw [hL] at hL';(injection hL' with hL';subst hL')
  exact ⟨L,ob,hL,k L ob (ne L ob' g2) g',c⟩
noncomputable def kF (env:Env) (pos:Pos):List (Option Expr)->List Expr->List (Sem Value×Sem Value)
 |some k::ks,v::vs=>(eval k env,(do let x <-eval v env;standAt pos;pure x))::kF env pos ks vs
 |_,_=>[]
theorem A1 {z:List Nat} {o:Option Expr} (h:GN z o=true):∃k p,o=some (.Constant (.str (ah z)) k p):=by
 refine ac h fun e he h1=>?_
 refine ac h1 fun c hc h2=>?_
 refine ac h2 fun y hy h3=>?_
 obtain ⟨k,p,e1⟩:=da hc
 exact ⟨k,p,by rw [he,e1,nP hy,<-eq_of_beq h3]⟩
theorem kb {z:List Nat} {r:List (List Nat)} {ks:List (Option Expr)} (h:mZ (z::r) ks=true):∃k p ks',ks=some (.Constant (.str (ah z)) k p)::ks'/\mZ r ks'=true:=by
 rcases ks with _|⟨o,ks'⟩
 ·injection h
 ·refine a7 h fun h1 h2=>?_
  obtain ⟨k,p,e⟩:=A1 h1
  exact ⟨k,p,ks',by rw [e],h2⟩
theorem gA:∀{l:List (List Nat)} {ks:List (Option Expr)} {vs:List Expr},mZ l ks=true->ks.length=vs.length->
  (evalEachOpt ks env).zip ((evalEach vs env).map fun v=>do let x <-v;standAt pos;pure x)=(kF env pos ks vs).map (fun p=>(some p.1,p.2))/\(kF env pos ks vs).length=ks.length
 |[],ks,vs,h,hl=>by
  rw [aL h]
  exact ⟨rfl,rfl⟩
 |z::l,ks,vs,h,hl=>by
  obtain ⟨k,p,ks',rfl,h2⟩:=kb h
  rcases vs with _|⟨v,vs⟩
  ·injection hl
  ·obtain ⟨i1,i2⟩:=gA h2 (Nat.succ.inj (show ks'.length.succ=vs.length.succ from hl))
   exact ⟨congrArg (List.cons _) i1,congrArg (·+1) i2⟩
theorem xt {vs:List Expr} {ps:List PE} (H:dK I5 w C P B fr A env ρ cf vs ps):∀{l:List (List Nat)} {ks:List (Option Expr)},mZ l ks=true->ks.length=vs.length->
  ∀as hh s,aP I5 w C B fr as hh s->aF C env ρ as s.heap->
  Sim I5 w C B (fun as h (us:List V) ps=>∃ys,aj as h us ys/\ys.length=l.length/\Carries (strKind I5 w) ps ((l.map ah).zip ys)) fr ay A (evalPairs (kF env pos ks vs)) (evs P cf ps ρ hh) as s:=by
 induction H with
 |nil=>
  intro l ks hk hl as hh s h0 N Q E h
  rw [List.length_eq_zero_iff.mp hl] at hk⊢
  rcases l with _|_
  ·exact evalPairs_nil (ai.now h h0 ⟨[],.nil,rfl,trivial⟩)
  ·injection hk
 |@cons v p vs ps _ he _ ih=>
  intro l ks hk hl as hh s h0 N Q E h
  rcases l with _|⟨z,l⟩
  ·rw [aL hk] at hl;injection hl
  ·obtain ⟨k,p',ks',rfl,hk2⟩:=kb hk
   refine evalPairs_cons (Calls.Constant_str (wpAny_bind ?_))
   have pg:=aI.toks (own:=ay) h0 (s.toks+1)
   refine Sim.run pg.here (he _ _ _ pg.here (N.post h0.R pg)) (ai.after h0 pg h) fun u I9 I8 s₁ y Z p rv h=>wpAny_bind (wpAny_standAt (wpAny_pure ?_))
   refine Sim.run p.here (ih hk2 (Nat.succ.inj (show ks'.length.succ=vs.length.succ from hl)) _ _ _ p.here ((N.post h0.R pg).post pg.rel p)) h fun us Ig Ia I6 ps Z I7 Ih h=>?_
   obtain ⟨ys,r1,r2,r3⟩:=Ih
   exact ai.now h I7.here ⟨y::ys,.cons (rv.post p.rel I7) r1,congrArg (·+1) r2,bO z _,rfl,r3⟩
theorem uP {ks:List (List Nat)} {ys:List Value} (h:ks.Nodup) (hl:ys.length=ks.length):(((ks.map ah).zip ys).map (·.1)).Nodup:=by
 rw [List.map_fst_zip (by rw [on,hl];exact HM _)]
 exact List.pairwise_map.mpr (h.imp fun hne e=>hne (db e))
theorem jT {h:Heap}:∀{ks:List (List Nat)} {us:List V} {ys:List Value},aj as h us ys->bi as h ((ks.map Key.s).zip us) ((ks.map ah).zip ys)
 |[],_,_,_=>.nil
 |_::_,_,_,r=>by
  cases r with
  |nil=>exact .nil
  |cons r1 r2=>exact .cons r1 (jT r2)
theorem AI {ks:List (Option Expr)} {vs:List Expr} {l:List (List Nat)} {ps:List PE} (hz:ks.length=vs.length/\ks.length<=10) (hk:mZ l ks=true) (H:dK I5 w C P B fr A env ρ cf vs ps):bh I5 w C P B fr A env ρ cf (.Dict ks vs pos) (.dict l ps):=by
 intro as hh s h0 N Q E h
 obtain ⟨hl,h10⟩:=hz
 by_cases hn:ks=[]
 ·rw [hn] at hl hk⊢
  rcases l with _|_
  ·cases H with
   |cons=>injection hl
   |nil=>
    refine wpAny_Dict_empty ?_
    exact h (as++[(s.heap.objs.size,s.heap.objs.size)]) { s with heap:=s.heap.push { cls:=.type "dict",data:=.dict #[] } } _ (aI.add (s':={ s with heap:=s.heap.push { cls:=.type "dict",data:=.dict #[] } }) h0 (ak _) b7 b7 ⟨rfl,.inl ⟨[],hU (HU _ rfl) ⟨rfl,rfl,rfl⟩ rfl,.nil⟩⟩ rfl rfl ⟨id,id⟩) (fc h0.R.len _)
  ·injection hk
 ·obtain ⟨hsh,hlen⟩:=gA (env:=env) (pos:=pos) hk hl
  refine wpAny_Dict_pairs (knd:=strKind I5 w) hsh (fun e=>hn (List.length_eq_zero_iff.mp (by rw [<-hlen,e];rfl))) (by rw [hlen];omega) ?_
  have pg:aI I5 w C B fr ay as s as hh { s with heap:=s.heap.push { cls:=.type "dict",data:=.dict #[] } }:=aI.grow (s':={ s with heap:=s.heap.push { cls:=.type "dict",data:=.dict #[] } }) h0 (ak _) rfl rfl
  refine Sim.run pg.here (xt (pos:=pos) H hk hl _ _ _ pg.here (N.post h0.R pg)) (ai.after h0 pg h) fun us Ig Ia I6 ps he p rv Z=>?_
  replace h:ai I5 w C B am fr ay as s ((evs P cf _ ρ hh).bd fun b h=>eN l b h) Q E:=h
  rw [he] at h
  refine ai.ifr h fun hnd h=>?_
  obtain ⟨ys,r1,r2,r3⟩:=rv
  have hnd:=of_decide_eq_true hnd
  have hD:s.heap.get? s.heap.objs.size=none:=b7
  have gD:(s.heap.push { cls:=.type "dict",data:=.dict #[] }).get? s.heap.objs.size=some { cls:=.type "dict",data:=.dict #[] }:=HU _ rfl
  have nfD:¬foot as s.heap.objs.size:=fun f=>by
   obtain ⟨o,e,_⟩:=h0.R.kind f;rw [hD] at e;injection e
  have Io:=p.step.keepN gD nfD id (gQ (T := "dict") rfl (by decide))
  have J8:¬foot Ia s.heap.objs.size:=fun f=>by
   obtain ⟨⟨r,er,hr⟩,_,_,_⟩:=p.step
   rw [er] at f
   rcases bE.mp f with f|⟨q,hq,f⟩
   ·exact nfD f
   ·rcases f with f|f
    ·have e:=(hr q hq).1.1;rw [<-f] at e;exact aw (e.symm.trans gD)
    ·have e:=(hr q hq).1.2;rw [<-f] at e;exact aw (e.symm.trans gD)
  refine ⟨_,r3,hU Io ⟨rfl,rfl,rfl⟩ rfl,fun h' hm hs=>?_⟩
  rw [merged_nil_of_nodup _ (uP hnd.2.1 r2)] at hm
  have kp:∀a ob,a≠s.heap.objs.size->I6.heap.get? a=some ob->h'.get? a=some ob:=fun a ob ne e=>(hs.2 a ne).trans e
  have nsD:¬solid ({ cls:=.type "dict",data:=.dict #[] }:Obj):=by
   rintro (⟨k,_⟩|⟨k,_⟩)
   ·revert k;decide
   ·revert k;decide
  have mv:aj (Ia++[(s.heap.objs.size,s.heap.objs.size)]) h' us ys:=(am.mono' (as':=Ia++[(s.heap.objs.size,s.heap.objs.size)]) ⟨_,rfl⟩ fun a o e sd=>kp a o (fun z=>by rw [z,Io] at e;(injection e with e;subst e);exact nsD sd) e).2 r1
  have P3:=aI.adopt (s₃:={ I6 with heap:=h',toks:=I6.toks+ps.length }) (o:=.dict ((l.map Key.s).zip us)) h0 (pg.trans p) hD J8 ⟨_,Io,nsD⟩ kp ⟨rfl,.inl ⟨_,hm,jT mv⟩⟩ rfl rfl
  exact h _ _ _ P3 (fc (as:=Ia) p.rel.len (s.heap.objs.size,s.heap.objs.size))
end
end
section
open W PyProof.Rows SeqAt
section
variable {I5:Program} {w:World} {C:CV} {P:PT} {K:Frag} {B:Heap} {fr:List Env} {own:Addr->Prop} {A:Around} {Q:Value->Shared->Prop} {E:Value->Shared->Prop} {as as':AS} {s s':Shared} {hh hh':H} {env:Env} {ρ:Loc} {cf:V->List V->PM V} {n:Nat}
def vY (M:Model) (h:Heap) (f:Value):Prop:=∃k,(k=Keeper.frame\/k=Keeper.machine\/k=Keeper.boundFrame)/\Looks M h (keeperOf f) k
variable (I5 w C B) in
noncomputable def d9 (fr:List Env) (A:Around) (as:AS) (s:Shared) (x:Value) (xs:List Value) (m:R V):Prop:=
 ∀Q E,ai I5 w C B am fr ay as s m Q E->vY (model I5 w) s.heap x/\wpAny (model I5 w) A (call x xs) Q E s
variable (P B) in
def jz (as:AS) (h:Heap) (v:V) (x:Value):Prop:=am as h v x\/∃c a ci,v=.exc c/\x=.ref a/\n7 h a c/\B.get? a=none/\P.cl.lookup c=some ci/\ci.exc=true
variable (I5 w C B) in
noncomputable def gg (P:PT) (fr:List Env) (A:Around) (as:AS) (s:Shared) (x:Value) (xs:List Value) (m:R V):Prop:=
 ∀Q E,ai I5 w C B (jz P B) fr ay as s m Q E->vY (model I5 w) s.heap x/\wpAny (model I5 w) A (call x xs) Q E s
variable (I5 w C B) in
def cj (P:PT) (cf:V->List V->PM V) (n:Nat):Prop:=∀A fr as hh s v x vs xs,AOK A fr n->aP I5 w C B fr as hh s->am as s.heap v x->aj as s.heap vs xs->gg I5 w C B P fr A as s x xs (cf v vs hh)
theorem gg.noX {P:PT} {fr:List Env} {A:Around} {as:AS} {s:Shared} {x:Value} {xs:List Value} {m:R V} (h:gg I5 w C B P fr A as s x xs m):d9 I5 w C B fr A as s x xs (m.bd vV):=by
 intro Q E hE
 refine h Q E ?_
 rcases m with ⟨v,h3⟩|⟨c,h3⟩|_
 ·intro as' s' x p rv
  rcases rv with rv|⟨c,a,ci,e,_⟩
  ·induction v using V.casesOn with
   |exc=>exact hE.elim
   |_=>exact hE as' s' x p rv
  ·rw [e] at hE;exact hE.elim
 ·exact hE
 ·exact hE
theorem cB {M:Model} {h:Heap} (id:String):vY M h (.builtin id):=⟨.machine,.inr (.inl rfl),Looks.of_pure rfl⟩
theorem mC {M:Model} {h:Heap} (T:String):vY M h (.type T):=⟨.machine,.inr (.inl rfl),Looks.of_pure rfl⟩
theorem dH {pos:Pos} {es:List Expr} {ps:List PE} (H:dK I5 w C P B fr A env ρ cf es ps):(backTo pos (starEach es env)).any (·.1)=false/\(backTo pos (starEach es env)).all (fun x=>!x.1)=true:=by
 induction H with
 |nil=>exact ⟨rfl,rfl⟩
 |@cons e p es ps hs _ _ ih=>rw [j5 hs];exact ih
theorem lu {M:Model} {f:Value} {Q:Args->Shared->Prop} (h:wpAny M A (spliced []) (fun vs s'=>Q ⟨vs,[]⟩ s') E s):wpAny M A (evalArgs f true [] []) Q E s:=by
 unfold evalArgs
 show wpAny M A (spliced [] >>= _) Q E s
 refine wpAny_bind (wpAny_mono h (fun vs s' h'=>?_) fun Z Z x=>x)
 refine wpAny_bind (wpAny_pure ?_)
 refine wpAny_holding ?_
 exact wpAny_bind (wpAny_pure (wpAny_pure h'))
theorem xJ (f:Expr) (es:List Expr) (pos:Pos):isT (eval (.Call f es [] pos) env=(do callWith pos (<-eval f env) [] (backTo pos (starEach es env)) (backToKw pos (keywordEach [] env)))) (iF f).isNone:=by
 rcases f with _|_<;>first|exact rfl|exact trivial
theorem xI {f:Expr} {es:List Expr} {pos:Pos} (ha:(iF f).isNone=true):eval (.Call f es [] pos) env=(do callWith pos (<-eval f env) [] (backTo pos (starEach es env)) (backToKw pos (keywordEach [] env))):=(xJ f es pos).to ha
theorem df {f:Value} {pos pos':Pos} {first:List Value} {es:List Expr} {ps:List PE} {A':Around} (H:dK I5 w C P B fr A env ρ cf es ps)
  (h:wpAny (model I5 w) A' (spliced (backTo pos' (starEach es env))) (fun xs s₁=>vY (model I5 w) s₁.heap f/\wpAny (model I5 w) A' (call f (first++xs)) Q E s₁) E s):
  wpAny (model I5 w) A' (callWith pos f first (backTo pos' (starEach es env)) []) Q E s:=by
 have h1:=(dH (pos:=pos') H).1
 refine callWith_of (P:=fun h=>vY (model I5 w) h f) (by rw [h1];rfl) (fun Z x=>x) ?_
 cases H with
 |nil=>exact lu h
 |cons hs he H=>
  rw [j5 hs] at h⊢
  exact Calls.evalArgs_plain h
theorem uF {f:Expr} {pf:PE} {es:List Expr} {ps:List PE} {pos:Pos} (ha:(iF f).isNone=true) (hf:bh I5 w C P B fr A env ρ cf f pf) (H:dK I5 w C P B fr A env ρ cf es ps)
  (hcall:∀as hh s v x vs xs,aP I5 w C B fr as hh s->am as s.heap v x->aj as s.heap vs xs->d9 I5 w C B fr A as s x xs (bJ cf v vs hh)):bh I5 w C P B fr A env ρ cf (.Call f es [] pos) (.call pf ps):=by
 intro as hh s h0 N Q E h
 rw [xI ha]
 refine wpAny_bind (Sim.run h0 (hf as hh s h0 N) h fun v I9 I8 s₁ x Z p rv h=>?_)
 refine df H (Sim.run p.here (cx H _ _ _ p.here (N.post h0.R p)) h fun vs Ig Ia I6 xs Z I7 Ih h=>?_)
 exact hcall _ _ _ _ _ _ _ I7.here (rv.post p.rel I7) Ih.1 Q E h
end
end
section
open W PyProof.Rows SeqAt
theorem vR:bD[0]?=some ("append" : Str):=rfl
theorem vQ:bD[1]?=some ("extend" : Str):=rfl
theorem DM:bD[2]?=some ("pop" : Str):=rfl
theorem DN:bD[3]?=some ("get" : Str):=rfl
theorem xO:bD[4]?=some ("split" : Str):=rfl
theorem B6:bD[5]?=some ("join" : Str):=rfl
theorem rR:bD[6]?=some ("replace" : Str):=rfl
theorem xP:bD[7]?=some ("index" : Str):=rfl
section
variable {I5:Program} {w:World} {C:CV} {P:PT} {K:Frag} {B:Heap} {fr:List Env} {own:Addr->Prop} {A:Around} {Q:Value->Shared->Prop} {E:Value->Shared->Prop} {as as':AS} {s s':Shared} {hh hh':H} {env:Env} {ρ:Loc} {cf:V->List V->PM V} {n:Nat}
noncomputable def DQ (i:Nat):String:=if i=4 then "str.split" else if i=5 then "str.join" else if i=6 then "str.replace" else "str.index"
noncomputable def wf (i:Nat):String:=if i=0 then "list.append" else if i=1 then "list.extend" else "list.pop"
noncomputable def vZ (m:Mth) (i:Nat):Value:=match m with
 |.own a=>.ref a
 |.str=>.builtin (DQ i)
 |.list=>.builtin (wf i)
 |.dict=>.builtin "dict.get"
theorem nH (FX:aU C P B K) {y:Str} {i:Nat} (hy:C.id y=some i) (hi:i < 8):bD[i]?=some y:=by
 rw [<-FX.meths,List.getElem?_take_of_lt hi]
 exact CV.id_get hy
theorem oV {nm:Str} {id:String} {z:Str} {t:Tok} {pl:Sem Bool} {Q:Value×List Value->Shared->Prop} (sl:Slot "str" nm id) (ty:typeOf (.builtin id)=pure (.type "method_descriptor")) (q:Q (.builtin id,[.str z t]) s):wpAny (model I5 w) A (getMethod (.str z t) nm pl) Q E s:=by
 refine getMethod_builtin (T := "str") (id:=id) ?a ?b ?c ?d ?e ?f
 ·exact typeIs_str _ _ _
 ·exact F.plainAttrs_str
 ·exact sl
 ·exact ty
 ·intro a e;injection e
 ·exact q
theorem jE (FX:aU C P B K) {z:Str} {t:Tok} {y:Str} {i:Nat} (hy:C.id y=some i) (h1:4<=i/\i<=7) {pl:Sem Bool} {E:Value->Shared->Prop} {Q:Value×List Value->Shared->Prop} (q:Q (.builtin (DQ i),[.str z t]) s):
  wpAny (model I5 w) A (getMethod (.str z t) y pl) Q E s:=by
 have hn:=nH FX hy (by omega)
 have hi:i=4\/i=5\/i=6\/i=7:=by omega
 rcases hi with rfl|rfl|rfl|rfl
 ·rw [<-be (xO.symm.trans hn)]
  exact @oV I5 w A E s "split" "str.split" z t pl Q F.slot_str_split F.type_str_split q
 ·rw [<-be (B6.symm.trans hn)]
  exact @oV I5 w A E s "join" "str.join" z t pl Q F.slot_str_join F.type_str_join q
 ·rw [<-be (rR.symm.trans hn)]
  exact @oV I5 w A E s "replace" "str.replace" z t pl Q F.slot_str_replace F.type_str_replace q
 ·rw [<-be (xP.symm.trans hn)]
  exact @oV I5 w A E s "index" "str.index" z t pl Q F.slot_str_index F.type_str_index q
theorem jp (FX:aU C P B K) {a:Addr} {ys:Array Value} {k:Nat} (g:s.heap.get? a=some { cls:=.type "list",data:=.seq ys k }) {y:Str} {i:Nat} (hy:C.id y=some i) (h1:i<=2) {pl:Sem Bool} {E:Value->Shared->Prop} {Q:Value×List Value->Shared->Prop} (q:Q (.builtin (wf i),[.ref a]) s):
  wpAny (model I5 w) A (getMethod (.ref a) y pl) Q E s:=by
 have hn:=nH FX hy (by omega)
 have nd:∀b,Value.ref a=.ref b->∃o,s.heap.get? b=some o/\o.dict=none:=fun b e=>by (injection e with e;subst e);exact ⟨_,g,rfl⟩
 have hi:i=0\/i=1\/i=2:=by omega
 rcases hi with rfl|rfl|rfl
 ·rw [<-be (vR.symm.trans hn)]
  exact getMethod_builtin (au g).typeIs F.plainAttrs_list F.slot_list_append F.type_list_append nd q
 ·rw [<-be (vQ.symm.trans hn)]
  exact getMethod_builtin (au g).typeIs F.plainAttrs_list F.slot_list_extend F.type_list_extend nd q
 ·rw [<-be (DM.symm.trans hn)]
  exact getMethod_builtin (au g).typeIs F.plainAttrs_list F.slot_list_pop F.type_list_pop nd q
theorem DictAt.type {a:Addr} {es:List (Key×V)} (r:DictAt I5 w as s.heap a es):s.TypeIs (.ref a) "dict" /\ ∀b,Value.ref a=.ref b->∃o,s.heap.get? b=some o/\o.dict=none:=by
 rcases r with ⟨kvs,D,_⟩|⟨rows,D,_⟩
 ·refine ⟨D.typeIs,fun b e=>?_⟩
  obtain ⟨o,es,ep,g,x,_⟩:=D
  (injection e with e;subst e)
  exact ⟨o,g,x.2.1⟩
 ·refine ⟨D.typeIs,fun b e=>?_⟩
  obtain ⟨o,es,ep,g,x,_⟩:=D
  (injection e with e;subst e)
  exact ⟨o,g,x.2.1⟩
theorem rn (FX:aU C P B K) (R:bW I5 w C B as hh s.heap) {v:V} {x:Value} {y:Str} {i:Nat} {m:Mth} (hv:am as s.heap v x) (hy:C.id y=some i) (hm:yW P v i hh=some m) {pl:Sem Bool} {E:Value->Shared->Prop} {Q:Value×List Value->Shared->Prop} (q:Q (vZ m i,[x]) s):
  wpAny (model I5 w) A (getMethod x y pl) Q E s:=by
 replace hv:=hv.inv
 induction v using V.casesOn with
 |str z=>
  obtain ⟨t,e⟩:=hv
  refine aJ hm fun hi hm=>?_
  rw [<-be hm,e] at q
  rw [e]
  exact @jE I5 w C P K B A s FX (ah z) t y i hy (of_decide_eq_true hi) pl E Q q
 |ref n=>
  obtain ⟨p,hp,e⟩:=hv
  refine a8 hm fun o ho hm=>?_
  rw [e] at q⊢
  rcases o with xs|es|⟨c,fs⟩
  ·refine aJ hm fun hi hm=>?_
   rw [<-be hm] at q
   obtain ⟨-,ys,k,g,r⟩:=R.obj n _ p ho hp
   exact jp FX g hy (of_decide_eq_true hi) q
  ·refine aJ hm fun hi hm=>?_
   rw [<-be hm] at q
   obtain ⟨-,r⟩:=R.obj n _ p ho hp
   have hi:=eq_of_beq hi
   have hn:bD[3]?=some y:=by rw [<-hi];exact nH FX hy (by omega)
   rw [<-be (DN.symm.trans hn)]
   have key:=DictAt.type (I5:=I5) (w:=w) r
   exact getMethod_builtin key.1 F.plainAttrs_dict F.slot_dict_get F.type_dict_get key.2 q
  ·refine a8 hm fun ci hci hm=>?_
   refine a8 hm fun f hf hm=>?_
   refine aJ hm fun hx hm=>?_
   refine a7 hx fun hx hex=>?_
   rw [<-be hm] at q
   have CF:=li (FX.cls c ci hci ((Bool.not_eq_true' _).mp hex))
   obtain ⟨o,m,I⟩:=R.inst (i:=(c,fs)) hp (show (hh[n]?).bind O.inst?=_ by rw [ho];rfl)
   have X:=FX.frag.keeps R.base
   have hf2:=(CF.name y i hy).2
   rw [hf] at hf2
   have hmy:=I.vals i y hy
   rw [cG hx] at hmy
   exact method_fn X I.instAt (plainGet_of (CF.get y)).1 (plainGet_of (CF.get y)).2 hf2.1 (beq_iff_eq.mp hf2.2) (by show (lookIn y o).map _=_;rw [I.look,show m y=none from hmy];rfl) q
 |_=>exact aw hm
theorem pU {α:Type} {RV:AS->Heap->α->Value->Prop} {o:Expr} {po:PE} {y:Str} {es:List Expr} {ps:List PE} {apos pos:Pos} {i:Nat} {g:Mth->V->List V->PM α} (FX:aU C P B K) (ho:bh I5 w C P B fr A env ρ cf o po) (H:dK I5 w C P B fr A env ρ cf es ps)
  (hcall:∀as hh s m v x vs xs,aP I5 w C B fr as hh s->am as s.heap v x->aj as s.heap vs xs->∀Q E,ai I5 w C B RV fr ay as s (g m v vs hh) Q E->vY (model I5 w) s.heap (vZ m i)/\wpAny (model I5 w) A (call (vZ m i) (x::xs)) Q E s)
  (hi:C.id y=some i) (hz:(eM o&&apos.endLine==pos.line&&decide (es.length < 30))=true) (h0:aP I5 w C B fr as hh s) (N:aF C env ρ as s.heap)
  (h:ai I5 w C B RV fr ay as s ((ev P cf po ρ hh).bd fun v h=>(jt P v i h).bd fun m h=>(evs P cf ps ρ h).bd fun vs h=>g m v vs h) Q E):
  wpAny (model I5 w) A (eval (.Call (.Attribute o y apos) es [] pos) env) Q E s:=by
 refine a7 hz fun hz hz3=>?_
 refine a7 hz fun hz1 hz2=>?_
 rw [arm_eval_Call,uM hz1]
 refine wpAny_bind (Sim.run h0 (ho as hh s h0 N) h fun v I9 I8 s₁ x Z p rv h=>wpAny_bind (wpAny_standAt ?_))
 have hform:methodCallForm (es.length+([]:List Keyword).length) (backTo pos (starEach es env)) (backToKw pos (keywordEach [] env))=true:=by
  unfold methodCallForm
  rw [(dH H).2]
  have k0:keywordEach [] env=[]:=rfl
  simp [backToKw,k0,of_decide_eq_true hz3]
 have hpos:methodCallPos true o env apos pos=pure pos:=by unfold methodCallPos;simp [eq_of_beq hz2]
 unfold methodCall
 rw [hform]
 rcases hm:yW P v i I9 with _|m
 ·unfold jt at h;rw [hm] at h;exact h.elim
 ·unfold jt at h
  rw [hm] at h
  refine wpAny_bind (wpAny_holding (rn (A:=A) FX p.rel rv hi hm (wpAny_bind (wpAny_of_eq hpos ?_))))
  refine df H (Sim.run p.here (cx H _ _ _ p.here (N.post h0.R p)) h fun vs Ig Ia I6 xs Z I7 Ih h=>?_)
  exact hcall _ _ _ _ _ _ _ _ I7.here (rv.post p.rel I7) Ih.1 Q E h
theorem AH {o:Expr} {po:PE} {y:Str} {es:List Expr} {ps:List PE} {apos pos:Pos} {i:Nat} (FX:aU C P B K) (ho:bh I5 w C P B fr A env ρ cf o po) (H:dK I5 w C P B fr A env ρ cf es ps)
  (hi:C.id y=some i) (hz:(eM o&&apos.endLine==pos.line&&decide (es.length < 30))=true)
  (hcall:∀as hh s m v i x vs xs,aP I5 w C B fr as hh s->am as s.heap v x->aj as s.heap vs xs->d9 I5 w C B fr A as s (vZ m i) (x::xs) (fJ cf m v i vs hh)):bh I5 w C P B fr A env ρ cf (.Call (.Attribute o y apos) es [] pos) (.meth po i ps):=
 fun as hh s h0 N Q E h=>pU (g:=fun m v vs=>fJ cf m v i vs) FX ho H (fun as hh s m v x vs xs h0 rv rvs=>hcall as hh s m v i x vs xs h0 rv rvs) hi hz h0 N h
end
end
section
open W PyProof.Rows SeqAt
section
variable {I5:Program} {w:World} {C:CV} {P:PT} {K:Frag} {B:Heap} {fr:List Env} {own:Addr->Prop} {A:Around} {Q:Value->Shared->Prop} {E:Value->Shared->Prop} {as as':AS} {s s':Shared} {hh hh':H} {env:Env} {ρ:Loc} {cf:V->List V->PM V} {n:Nat}
theorem jJ {t:Addr} {items:Array Value} {Q:Value->Shared->Prop} (ht:s.heap.IsTuple t items) (hfit:(items.size:Int) < 2 ^ 63)
  (h:Q (.int items.size (s.toks+1)) { s with toks:=s.toks+1+1 }):wpAny (model I5 w) A (call (.builtin "len") [.ref t]) Q E s:=
 Calls.call_function_entry kind_len plain_len entry_len (args_len1 _) (wpAny_mono (len_body_tuple ht hfit h) (fun fin s' h'=>by obtain ⟨r,e,q⟩:=h';exact ⟨r,e,q⟩) fun Z Z e=>e)
theorem cq {h:Heap} {vs:List V} {xs:List Value} {a:V} (e:one vs=some a) (r:aj as h vs xs):∃x,xs=[x]/\am as h a x:=by
 rw [one_of e] at r
 obtain ⟨x,ys,rfl,r1,r2⟩:=r.inv
 exact ⟨x,by rw [show ys=[] from r2.inv],r1⟩
theorem iS {h:Heap} {vs:List V} {xs:List Value} {p:V×V} (e:two vs=some p) (r:aj as h vs xs):∃x y,xs=[x,y]/\am as h p.1 x/\am as h p.2 y:=by
 rw [lQ e] at r
 obtain ⟨x,ys,rfl,r1,r2⟩:=r.inv
 obtain ⟨y,e,r3⟩:=cq rfl r2
 exact ⟨x,y,by rw [e],r1,r3⟩
theorem u4 {h:Heap} {α:Type} {vs:List V} {xs:List Value} {f:Int->Option α} {y:α} (e:((one vs).bind fun a=>a.int?.bind f)=some y) (r:aj as h vs xs):∃i t,xs=[.int i t]/\f i=some y:=by
 refine a8 e fun a h1 e=>?_
 refine a8 e fun i h2 e=>?_
 obtain ⟨x,e1,rx⟩:=cq h1 r
 rw [V.int_of h2] at rx
 obtain ⟨t,e2⟩:=rx.inv
 exact ⟨i,t,by rw [e1,e2],e⟩
theorem kR {h:Heap} {α:Type} {vs:List V} {xs:List Value} {f:Int->Int->Option α} {y:α} (e:((two vs).bind fun p=>gF p.1 p.2 f)=some y) (r:aj as h vs xs):∃i t j u,xs=[.int i t,.int j u]/\f i j=some y:=by
 refine a8 e fun p h1 e=>?_
 obtain ⟨i,j,e1,e2,e⟩:=nG e
 obtain ⟨x,y,rfl,ra,rb⟩:=iS h1 r
 rw [e1] at ra
 rw [e2] at rb
 obtain ⟨t,rfl⟩:=ra.inv
 obtain ⟨u,rfl⟩:=rb.inv
 exact ⟨i,t,j,u,rfl,e⟩
theorem xf {v:V} (h:v.isTyT=true):v=.bt .tuple:=isT.to (by
 clear h
 induction v using V.casesOn with
 |bt T=>rcases T with _|_<;>first|exact trivial|exact rfl
 |_=>exact trivial) h
theorem l7 {v:V} {c:Nat} (e:(v.str?.bind one)=some c):v=.str [c]:=by
 refine a8 e fun s h1 e=>?_
 rw [V.str_of h1,one_of e]
theorem Dv:((List.range 10).all fun k=>Str.ofString (toString (k:Int))==ah [48+k])=true:=by decide +kernel
theorem rG {i:Int} {s:List Nat} (h:iJ i=some s):(Str.ofString (toString i))=ah s/\i.natAbs.log2 < 1920:=by
 refine aJ h fun hi h=>?_
 obtain ⟨h0,h9⟩:=of_decide_eq_true hi
 obtain ⟨k,rfl⟩:=Int.eq_ofNat_of_zero_le h0
 rw [<-be h]
 have hk:k < 10:=by omega
 refine ⟨eq_of_beq (List.all_eq_true.mp Dv k (List.mem_range.mpr hk)),?_⟩
 exact Nat.lt_of_le_of_lt (Nat.log2_le_self k) (by omega)
theorem rN {id:BF} {vs:List V} {xs:List Value} (hA:A.handled=none) (h0:aP I5 w C B fr as hh s) (hv:aj as s.heap vs xs):d9 I5 w C B fr A as s (.builtin id.name) xs (eB (DV id vs hh) hh):=by
 intro Q E h'
 refine ⟨cB id.name,h'.ask fun v e h=>?_⟩
 clear h'
 rcases id with _|_|_|_|_|_|_
 ·refine a8 e fun a h1 e=>?_
  refine aW e fun n h2 e=>?_
  obtain ⟨x,rfl,r⟩:=cq h1 hv
  obtain ⟨h2,h3⟩:=uc h2
  rw [<-e] at h
  rcases yr h0.R r h2 with ⟨z,t,-,e1,h4⟩|⟨p,ys,e1,h4,h5⟩|⟨p,ys,e1,h4,h5⟩
  ·rw [e1]
   refine SBL.len (show (z.length:Int) < 9223372036854775808 by omega) ?_
   have:=ai.here (tk:=s.toks+1+1) h0 h (am.int n (s.toks+1))
   rw [show ((ah z).length:Int)=n from congrArg _ h4]
   exact this
  ·rw [e1]
   refine jJ h4 (by omega) ?_
   rw [h5]
   exact ai.here h0 h (am.int _ _)
  ·rw [e1]
   refine Calls.call_len_list h4 (by omega) ?_
   rw [h5]
   exact ai.here h0 h (am.int _ _)
 ·refine a8 e fun a h1 e=>?_
  refine a8 e fun z h2 e=>?_
  refine aW e fun c h3 e=>?_
  obtain ⟨x,rfl,r⟩:=cq h1 hv
  rw [V.str_of h2,one_of h3] at r
  obtain ⟨t,rfl⟩:=r.inv
  rw [<-e] at h
  exact PySem.P.ord_of_char (ai.here h0 h (am.int _ _))
 ·obtain ⟨i,t,rfl,e⟩:=u4 e hv
  refine aJ e fun hi e=>?_
  have hi:=of_decide_eq_true hi
  rw [<-be e] at h
  exact PySem.P.chr_of_int (by simp;omega) (ai.here h0 h (am.str [_] _))
 ·obtain ⟨a,t,b,u,rfl,e⟩:=kR e hv
  rw [<-be e] at h
  refine min_two_ints hA fun h' tk k=>?_
  have q:=fun v=>ai.grown (tk:=tk) h0 h k (am.int (min a b) v)
  by_cases hb:b < a
  ·rw [if_pos hb]
   rw [show min a b=b by omega] at q
   exact q _
  ·rw [if_neg hb]
   rw [show min a b=a by omega] at q
   exact q _
 ·obtain ⟨a,t,b,u,rfl,e⟩:=kR e hv
  rw [<-be e] at h
  refine max_two_ints hA fun h' tk k=>?_
  have q:=fun v=>ai.grown (tk:=tk) h0 h k (am.int (max a b) v)
  by_cases hb:b > a
  ·rw [if_pos hb]
   rw [show max a b=b by omega] at q
   exact q _
  ·rw [if_neg hb]
   rw [show max a b=a by omega] at q
   exact q _
 ·refine a8 e fun a h1 e=>?_
  refine aW e fun i h2 e=>?_
  obtain ⟨x,rfl,r⟩:=cq h1 hv
  rw [V.int_of h2] at r
  obtain ⟨t,rfl⟩:=r.inv
  rw [<-e] at h
  refine call_abs_int fun u tk=>?_
  rw [show (if i < 0 then -i else i)=((i.natAbs:Nat):Int) by split<;>omega]
  exact ai.here h0 h (am.int _ _)
 ·refine a8 e fun p h1 e=>?_
  refine aJ e fun h2 e=>?_
  refine aW e fun q h3 e=>?_
  obtain ⟨x,y,rfl,ra,rb⟩:=iS h1 hv
  rw [xf h2] at rb
  rw [show y=_ from rb.inv]
  rw [<-e] at h
  induction h4:p.1 using V.casesOn with
  |tup zs=>
   rw [h4] at ra h3
   obtain ⟨a,ys,rfl,⟨o,n,g,c,d⟩,_⟩:=ra.inv
   rw [<-be h3] at h
   exact IsiPair.tuple_tuple g c (ai.here (tk:=s.toks) h0 h (am.bool _))
  |str z=>
   rw [h4] at ra h3
   obtain ⟨t,rfl⟩:=ra.inv
   rw [<-be h3] at h
   exact IsiPair.str_tuple (ai.here h0 h (am.bool _))
  |_=>rw [h4] at h3;exact aw h3
theorem jh {a b:Int} (h:jL a b=true):Builtin.Range.small a b 1=true:=by
 refine a7 h fun h hl=>?_
 have hl:=of_decide_eq_true hl
 have ha:=eQ (aV h).1
 have hb:=eQ (aV h).2
 have fits:∀{x:Int},-9223372036854775808<=x->x < 9223372036854775808->Builtin.Range.rangeFitsLong x=true:=fun {x} h1 h2=>by
  unfold Builtin.Range.rangeFitsLong;simp;omega
 unfold Builtin.Range.small
 rw [rangeSize_one]
 have f1:=fits (x:=a) (by omega) (by omega)
 have f2:=fits (x:=b) (by omega) (by omega)
 have f3:=fits (x:=1) (by omega) (by omega)
 have f4:Builtin.Range.rangeFitsLong (if a < b then b - a else 0)=true:=by split<;>exact fits (by omega) (by omega)
 have f5:Builtin.Range.rangeFitsLong (b+(1 - 1))=true:=fits (by omega) (by omega)
 simp [f1,f2,f3,f4,f5]
theorem jX {a b:Int}:Builtin.Range.rangeSize a b 1=((b - a).toNat:Int):=by rw [rangeSize_one];split<;>omega
theorem bV {a b:Int}:(av a b).length=(b - a).toNat:=by simp [av]
theorem jZ {a b:Int} {i:Nat} (h:i < (b - a).toNat):(av a b)[i]?=some (.int (a+(i:Int))):=by simp [av,h]
theorem pu {h:Heap}:∀{xs:List V} {ys:List Value},xs.length=ys.length->(∀(i:Nat) (h1:i < xs.length) (h2:i < ys.length),am as h xs[i] ys[i])->aj as h xs ys
 |[],[],_,_=>.nil
 |[],_::_,e,_=>by injection e
 |_::_,[],e,_=>by injection e
 |x::xs,y::ys,e,k=>.cons (k 0 (by simp) (by simp)) (pu (by simpa using e) fun i h1 h2=>k (i+1) (by simpa using h1) (by simpa using h2))
theorem oC {T:TY} {vs:List V} {xs:List Value} (hA:A.handled=none) (h0:aP I5 w C B fr as hh s) (hv:aj as s.heap vs xs):d9 I5 w C B fr A as s (.type T.name) xs (w8 T vs hh):=by
 intro Q E h'
 refine ⟨mC T.name,?_⟩
 rcases T with _|_|_|_|_|_
 ·refine ai.ask h' fun v e h=>?_
  clear h'
  rcases vs with _|⟨a,r⟩
  ·exact aw e
  ·rcases r with _|⟨b,r⟩
   ·refine aW e fun i h2 e=>?_
    obtain ⟨x,rfl,r⟩:=cq rfl hv
    rw [V.int_of h2] at r
    obtain ⟨t,rfl⟩:=r.inv
    rw [<-e] at h
    exact call_range_1 (ai.grown h0 h (ak _) (am.rng ⟨_,_,_,HU _ rfl⟩))
   ·refine a8 e fun b' h1 e=>?_
    obtain ⟨i,t,j,u,rfl,e⟩:=kR (vs:=a::b::r) (f:=fun x y=>some (V.rng x y)) (by cases r<;>first|exact aw h1|(cases h1;exact e)) hv
    rw [<-be e] at h
    exact call_range_2 (ai.grown h0 h (ak _) (am.rng ⟨_,_,_,HU _ rfl⟩))
 ·refine ai.ask h' fun v e h=>?_
  clear h'
  refine a8 e fun a h1 e=>?_
  obtain ⟨x,rfl,r⟩:=cq h1 hv
  replace r:=r.inv
  induction a using V.casesOn with
  |tup zs=>
   obtain ⟨p,ys,rfl,tb,rb⟩:=r
   rw [<-be e] at h
   exact call_tuple_same tb.to (ai.now h h0 (am.tup tb rb))
  |ref n=>
   obtain ⟨p,hp,rfl⟩:=r
   refine a8 e fun zs hz e=>?_
   refine aJ e fun hc e=>?_
   refine a7 hc fun hl hok=>?_
   obtain ⟨-,ys,k,g,r⟩:=h0.R.list hp hz
   have hl:=of_decide_eq_true hl
   have hy:_=ys.size:=r.length
   rw [<-be e] at h
   refine call_tuple_list (au g) (fun h' kp=>?_) (aR (by omega))
   exact ai.tup (ys:=ys.toList) (tk:=s.toks) h0 h (fun a o e=>ak _ _ _ (kp a o e)) ⟨_,0,HU _ rfl,rfl,by rfl,sH hok r⟩ r
  |_=>exact aw e
 ·refine ai.opt h' fun l e h=>?_
  clear h'
  refine a8 e fun a h1 e=>?_
  obtain ⟨x,rfl,r⟩:=cq h1 hv
  replace r:=r.inv
  induction a using V.casesOn with
  |ref n=>
   obtain ⟨p,hp,rfl⟩:=r
   refine a8 e fun zs hz e=>?_
   refine aJ e fun hc e=>?_
   obtain ⟨-,ys,k,g,r⟩:=h0.R.list hp hz
   have hl:=of_decide_eq_true hc
   have hy:_=ys.size:=r.length
   rw [<-be e] at h
   refine call_list_seq (hsz:=aR (by omega)) _ (.inl rfl) g rfl rfl fun h' c' kp gD=>?_
   exact ai.list (tk:=s.toks) h0 h kp b7 gD r
  |rng a b=>
   obtain ⟨q,rfl,t,u,v,hr⟩:=r
   refine aJ e fun hc e=>?_
   rw [<-be e] at h
   refine call_list_range hA hr (jh hc) jX (by have:=of_decide_eq_true (aV hc).2;omega) fun h' tk acc c' kp gD hI=>?_
   refine ai.list (tk:=tk) h0 h kp b7 gD (pu (bV.trans (show _=acc.size from hI.1.symm)) fun i h1 h2=>?_)
   rw [bV] at h1
   have e1:(av a b)[i]=.int (a+(i:Int)):=be ((HJ (by rw [bV];exact h1)).symm.trans (jZ (a:=a) (b:=b) h1))
   have h3:i < acc.size:=h2
   obtain ⟨t,e2⟩:=hI.2 i acc[i] (Array.getElem?_eq_getElem h3)
   rw [e1,Array.getElem_toList,e2,Int.mul_one]
   exact .int _ _
  |_=>exact aw e
 ·refine ai.ask h' fun v e h=>?_
  clear h'
  obtain ⟨i,t,rfl,e⟩:=u4 e hv
  refine aW e fun z hz e=>?_
  obtain ⟨e1,e2⟩:=rG hz
  rw [<-e] at h
  refine PySem.P.str_of_int e2 ?_
  rw [e1]
  exact ai.here (tk:=s.toks+1) h0 h (am.str z s.toks)
 ·exact h'.elim
 ·exact h'.elim
theorem vX.values {ws:List (List Nat)} {ys:List Value} (S:vX ws ys):∃l:List (Str×Tok),ys=strValues l/\l.map (·.1)=ws.map ah:=by
 induction S with
 |nil=>exact ⟨[],rfl,rfl⟩
 |@cons w ws ys t _ ih=>
  obtain ⟨l,rfl,e⟩:=ih
  exact ⟨(ah w,t)::l,rfl,congrArg (List.cons _) e⟩
theorem mD {s x y:List Nat} {r:List (List Nat)}:cF s (x::y::r)=x++s++cF s (y::r):=rfl
theorem jj (sep:List Nat):∀(ws:List (List Nat)) (acc:List Nat),ws.foldl (fun a p=>a++sep++p) acc=match ws with|[]=>acc|_=>acc++sep++cF sep ws
 |[],acc=>rfl
 |[x],acc=>rfl
 |x::y::r,acc=>by
  rw [List.foldl_cons,jj sep (y::r),mD]
  simp
theorem rm (sep:List Nat) (ws:List (List Nat)):Builtin.Str.glued (ah sep) (ws.map ah)=ah (cF sep ws):=by
 rcases ws with _|⟨x,r⟩
 ·rfl
 ·unfold Builtin.Str.glued
  have key:∀(r:List (List Nat)) (acc:List Nat),(r.map ah).foldl (fun acc p=>acc++(ah sep).cps++p.cps) acc.toArray=(r.foldl (fun a p=>a++sep++p) acc).toArray:=by
   intro r
   induction r with
   |nil=>intro acc;rfl
   |cons y r ih=>intro acc;rw [List.map_cons,List.foldl_cons,List.foldl_cons,<-ih];simp [ah]
  have:=key r x
  simp only [List.map_cons,List.drop_succ_cons,List.drop_zero,List.headD_cons]
  show (⟨_⟩:Str)=⟨_⟩
  have this':List.foldl (fun acc p=>acc++sep.toArray++p.cps) x.toArray (List.map ah r)=(List.foldl (fun a p=>a++sep++p) x r).toArray:=this
  rw [this',jj]
  rcases r with _|⟨_,_⟩
  ·rfl
  ·rw [mD]
theorem md (sep:Nat):∀(ws:List Str) (acc:Nat),ws.foldl (fun a p=>a+p.length+sep) acc=acc+(ws.map fun w=>w.length+sep).sum
 |[],acc=>by simp
 |x::r,acc=>by rw [List.foldl_cons,md sep r];simp;omega
theorem fz {h:Heap}:∀(l:List Str) (tk:Nat),aj as h (l.map fun x=>V.str x.cps.toList) (strsFrom tk l)
 |[],_=>.nil
 |x::r,tk=>.cons (by have:=am.str (as:=as) (h:=h) x.cps.toList tk;simpa [ah] using this) (fz r (tk+1))
theorem oB {z:List Nat} {t:Tok} {vs:List V} {xs:List Value} (h0:aP I5 w C B fr as hh s) (hv:aj as s.heap vs xs) (h:ai I5 w C B am fr ay as s (oR z vs hh) Q E):wpAny (model I5 w) A (call (.builtin "str.split") (.str (ah z) t::xs)) Q E s:=by
 refine ai.opt h fun c e h'=>h'.ifr fun hc h=>?_
 clear h'
 refine a8 e fun a h1 e2=>?_
 obtain ⟨x,rfl,r⟩:=cq h1 hv
 rw [l7 e2] at r
 obtain ⟨u,rfl⟩:=r.inv
 obtain ⟨hpos,hz,hn,h128⟩:=of_decide_eq_true hc
 have h2:(decide ((ah z).length < (ah [c]).length)||decide (Builtin.Str.strKind (ah z) < Builtin.Str.strKind (ah [c])))=false:=by
  have e1:Builtin.Str.strKind (ah [c])=1:=by unfold Builtin.Str.strKind;simp;omega
  have e2:1<=Builtin.Str.strKind (ah z):=by unfold Builtin.Str.strKind;split<;>(try split)<;>omega
  rw [e1,decide_eq_false (show ¬(ah z).length < (ah [c]).length from fun (q:z.length < 1)=>by omega),decide_eq_false (by omega)]
  rfl
 have ho:Builtin.Str.occurrences (ah z) (ah [c]) 0 (ah z).length ((ah z).length+1)=occ z c (z.length+1):=rfl
 rcases hq:occ z c (z.length+1) with _|⟨i,r⟩
 ·unfold dj at h
  rw [hq] at h
  refine call_meets F.slot_str_split (typeIs_str _ _ _) F.entry_str_split (F.args_str_split_2 _ _) (meets_str_split_not_found (ah z) (ah [c]) t u h2 rfl (by rw [ho,hq];rfl)) ?_
  have q:=ai.list (tk:=s.toks) (k:=0) h0 h (ak _) b7 (HU _ rfl) (ys:=[Value.str (ah z) t].toArray) (.cons (.str _ _) .nil)
  exact q
 ·unfold dj at h hn
  rw [hq] at h hn
  have hpl:(Builtin.Str.partsBetween (ah z) (occ z c (z.length+1)) (ah [c]).length)=Builtin.Str.partsBetween (ah z) (i::r) 1:=by rw [hq];rfl
  refine call_meets F.slot_str_split (typeIs_str _ _ _) F.entry_str_split (F.args_str_split_2 _ _) (meets_str_split_sep (ah z) (ah [c]) t u h2 rfl (by rw [ho,hq];rfl) (aR hz) (by rw [ho,hpl];exact aR (by simpa using hn))) ?_
  rw [ho,hpl]
  have q:=fun tk=>ai.list (tk:=tk) (k:=0) h0 h (ak _) b7 (HU _ rfl) (ys:=(strsFrom s.toks (Builtin.Str.partsBetween (ah z) (i::r) 1)).toArray) (by
   have:=fz (as:=as) (h:=s.heap) (Builtin.Str.partsBetween (ah z) (i::r) 1) s.toks
   rw [List.map_map]
   exact this)
  exact q _
theorem GM (z:List Nat):∀(ws:List (List Nat)),(cF z ws).length<=(ws.map fun w=>w.length+z.length).sum
 |[]=>HM _
 |[x]=>by show x.length<=x.length+z.length+0;omega
 |x::y::r=>by
  have ih:=GM z (y::r)
  show (x++z++cF z (y::r)).length<=(x.length+z.length)+((y::r).map fun w=>w.length+z.length).sum
  rw [List.length_append,List.length_append]
  omega
theorem rO {z:List Nat} {t:Tok} {vs:List V} {xs:List Value} {v:V} (h0:aP I5 w C B fr as hh s) (hv:aj as s.heap vs xs) (e:sf z vs hh=some v) (h:ai I5 w C B am fr ay as s (.ok v hh) Q E):wpAny (model I5 w) A (call (.builtin "str.join") (.str (ah z) t::xs)) Q E s:=by
 refine a8 e fun a h1 e=>?_
 refine a8 e fun n h2 e=>?_
 refine a8 e fun zs h3 e=>?_
 refine a8 e fun ws h4 e=>?_
 refine aJ e fun hsum e=>?_
 have hsum:=of_decide_eq_true hsum
 obtain ⟨x,rfl,r⟩:=cq h1 hv
 rw [V.ref_of h2] at r
 obtain ⟨p,hp,rfl⟩:=r.inv
 obtain ⟨-,ys,k,g,r⟩:=h0.R.list hp h3
 obtain ⟨l,e1,e2⟩:=(gW h4 r).values
 rw [<-be e] at h
 have hs2:(((l.map (·.1)).toArray.foldl (·+·.length+(ah z).length) 0))=(ws.map fun w=>w.length+z.length).sum:=by
  rw [e2]
  have e4:(ws.map ah).toArray.foldl (·+·.length+(ah z).length) 0=(ws.map ah).foldl (fun a p=>a+p.length+(ah z).length) 0:=by simp
  rw [e4,md,Nat.zero_add,List.map_map]
  rfl
 refine call_meets F.slot_str_join (typeIs_str _ _ _) F.entry_str_join (F.args_str_join_2 _ _) (meets_str_join_list (ah z) t _ l (by rw [hs2];exact decide_eq_false (Nat.not_lt.mpr (aR hsum)))) ⟨⟨_,g,rfl,k,by rw [<-e1]⟩,?_⟩
 have hg:Builtin.Str.glued (ah z) (l.map (·.1))=ah (cF z ws):=by rw [e2];exact rm z ws
 have fit:(Builtin.Str.glued (ah z) (l.map (·.1))).length<=sizeLine:=by rw [hg];exact aR (HN (GM z ws) hsum)
 have q:∀tk,Q (.str (Builtin.Str.glued (ah z) (l.map (·.1))) tk) { s with toks:=s.toks+1 }:=fun tk=>by rw [hg];exact ai.here (tk:=s.toks+1) h0 h (am.str _ tk)
 have q0:∀tk,Q (.str (Builtin.Str.glued (ah z) (l.map (·.1))) tk) s:=fun tk=>by rw [hg];exact ai.now h h0 (am.str _ tk)
 clear hg e2 hs2 e1
 rcases l with _|⟨p,l⟩
 ·exact ⟨fit,q _⟩
 ·rcases l with _|_
  ·exact q0 _
  ·exact ⟨fit,q _⟩
theorem lw {z:List Nat} {t:Tok} {i:Nat} {vs:List V} {xs:List Value} (h0:aP I5 w C B fr as hh s) (hv:aj as s.heap vs xs):d9 I5 w C B fr A as s (vZ .str i) (.str (ah z) t::xs) (bK z i vs hh):=by
 intro Q E h
 refine ⟨cB _,?_⟩
 unfold bK at h
 show wpAny _ _ (call (.builtin (DQ i)) _) _ _ _
 unfold DQ
 by_cases h4:i=4
 ·rw [if_pos h4] at h⊢
  exact oB h0 hv h
 ·rw [if_neg h4] at h⊢
  by_cases h5:i=5
  ·rw [if_pos h5] at h⊢
   exact ai.ask h fun v e h=>rO h0 hv e h
  ·rw [if_neg h5] at h⊢
   by_cases h6:i=6
   ·rw [if_pos h6] at h⊢
    refine ai.ask h fun v e h=>?_
    refine a8 e fun p h1 e=>?_
    refine a8 e fun c h2 e=>?_
    refine a8 e fun d h3 e=>?_
    refine aJ e fun hc e=>?_
    refine a7 hc fun hd hc=>?_
    obtain ⟨x,y,rfl,ra,rb⟩:=iS h1 hv
    rw [l7 h2] at ra
    rw [V.str_of h3,aL hd] at rb
    obtain ⟨u,rfl⟩:=ra.inv
    obtain ⟨v,rfl⟩:=rb.inv
    rw [<-be e] at h
    have ho:(Builtin.Str.occurrences (ah z) (ah [c]) 0 (ah z).length ((ah z).length+1)).isEmpty=true:=hc
    refine call_gives F.slot_str_replace (typeIs_str _ _ _) F.entry_str_replace (F.args_str_replace_3 _ _ _) (gives_str_replace (ah z) (ah [c]) (ah []) t u v (by rw [ho];intro e;injection e)) ?_
    have q:Q (.str (ah z) t) s:=ai.now h h0 (am.str z t)
    rw [ho]
    exact q
   ·rw [if_neg h6] at h⊢
    by_cases h7:i=7
    ·rw [if_pos h7] at h
     refine ai.ask h fun v e h=>?_
     refine a8 e fun a h1 e=>?_
     refine a8 e fun c h2 e=>?_
     refine aW e fun j h3 e=>?_
     obtain ⟨x,rfl,r⟩:=cq h1 hv
     rw [l7 h2] at r
     obtain ⟨u,rfl⟩:=r.inv
     rw [<-e] at h
     obtain ⟨r,hr⟩:∃r,occ z c 1=j::r:=by
      rcases hq:occ z c 1 with _|⟨a,r⟩
      ·rw [hq] at h3;exact aw h3
      ·rw [hq] at h3;rw [<-be h3];exact ⟨r,rfl⟩
     refine call_gives F.slot_str_index (typeIs_str _ _ _) F.entry_str_index (F.args_str_index_2 _ _) (gives_str_index (ah z) (ah [c]) t u j r hr) ?_
     have q:=ai.here (tk:=s.toks+1) h0 h (am.int (j:Int) s.toks)
     exact q
    ·rw [if_neg h7] at h
     exact h.elim
end
end
section
open W PyProof.Rows SeqAt
section
variable {I5:Program} {w:World} {C:CV} {P:PT} {K:Frag} {B:Heap} {fr:List Env} {own:Addr->Prop} {A:Around} {Q:Value->Shared->Prop} {E:Value->Shared->Prop} {as as':AS} {s s':Shared} {hh hh':H} {env:Env} {ρ:Loc} {cf:V->List V->PM V} {n:Nat}
theorem oP {o:Obj} {T:String} (c:o.cls=.type T) (h:(T == "tuple" || T == "range")=false):¬solid o:=by
 obtain ⟨h1,h2⟩:=Bool.or_eq_false_iff.mp h
 rintro (⟨q,_⟩|⟨q,_⟩)
 ·exact beq_eq_false_iff_ne.mp h1 (Value.type.inj (c.symm.trans q))
 ·exact beq_eq_false_iff_ne.mp h2 (Value.type.inj (c.symm.trans q))
theorem aI.turnList {zs:List V} {ys:Array Value} {k n:Nat} {p:Addr×Addr} {h':Heap} (tk:Nat) (h0:aP I5 w C B fr as hh s)
  (hp:as[n]?=some p) (hd:p.2=p.1) (kp:∀a ob,a≠p.1->s.heap.get? a=some ob->h'.get? a=some ob) (g:h'.get? p.1=some { cls:=.type "list",data:=.seq ys k }) {IF:Array Value} {IG:Nat} (go:s.heap.get? p.1=some { cls:=.type "list",data:=.seq IF IG })
  (r:aj as s.heap zs ys.toList):aI I5 w C B fr own as s as (hh.set n (.list zs)) { s with heap:=h',toks:=tk }/\∀{v x},am as s.heap v x->am as h' v x:=by
 have nsD:¬solid ({ cls:=.type "list",data:=.seq IF IG }:Obj):=oP (T := "list") rfl (by decide)
 have mv:=am.mono' (as:=as) (as':=as) (h:=s.heap) (h':=h') ⟨[],(th as).symm⟩ fun a ob e' sd=>kp a ob (fun z=>by rw [z,go] at e';(injection e' with e';subst e');exact nsD sd) e'
 have nd:({ cls:=.type "list",data:=.seq IF IG }:Obj).cls≠.type "dict" := show Value.type "list" ≠ .type "dict" by decide
 exact ⟨aI.turn (p:=p) (s':={ s with heap:=h',toks:=tk }) h0 hp (fun a ob h1 Z e=>kp a ob h1 e) (by rw [hd,g];exact ⟨rfl,rfl⟩) (by rw [hd];exact ⟨.other go nd,.other go nd⟩) ⟨hd,ys,k,g,mv.2 r⟩ rfl rfl,mv.1⟩
theorem ai.turnList {v:V} {x:Value} {zs:List V} {ys:Array Value} {k n:Nat} {p:Addr×Addr} {h':Heap} {tk:Nat} (h0:aP I5 w C B fr as hh s) (h:ai I5 w C B am fr ay as s (.ok v (hh.set n (.list zs))) Q E)
  (hp:as[n]?=some p) (hd:p.2=p.1) (kp:∀a ob,a≠p.1->s.heap.get? a=some ob->h'.get? a=some ob) (g:h'.get? p.1=some { cls:=.type "list",data:=.seq ys k }) {IF:Array Value} {IG:Nat} (go:s.heap.get? p.1=some { cls:=.type "list",data:=.seq IF IG })
  (r:aj as s.heap zs ys.toList) (rv:am as s.heap v x):Q x { s with heap:=h',toks:=tk }:=by
 obtain ⟨p,mv⟩:=aI.turnList (own:=ay) tk h0 hp hd kp g go r
 exact h as _ x p (mv rv)
theorem fR {h:Heap} {D:Addr} {ys:Array Value} {k:Nat} {f:Array Value->Array Value} (g:h.get? D=some { cls:=.type "list",data:=.seq ys k }):
  (∃k',(h.update D (Obj.mapSeq f)).get? D=some { cls:=.type "list",data:=.seq (f ys) k' })/\∀a ob,a≠D->h.get? a=some ob->(h.update D (Obj.mapSeq f)).get? a=some ob:=by
 refine ⟨?_,fun a ob ne e=>(Heap.get?_update_ne _ _ _ _ ne).trans e⟩
 obtain ⟨k',hk⟩:=Obj.data_mapSeq (o:={ cls:=.type "list",data:=.seq ys k }) (xs:=ys) (n:=k) rfl f
 exact ⟨_,HX (Obj.mapSeq f) g (Obj.isFreed_of_seq hk)⟩
theorem zV {α:Type} {l:List α} {v:α} (h:l.getLast?=some v):0 < l.length/\l[l.length - 1]?=some v:=by
 rw [List.getLast?_eq_getElem?] at h
 exact ⟨by have:=(List.getElem?_eq_some_iff.mp h).1;omega,h⟩
theorem oE {n:Nat} {p:Addr×Addr} {zs:List V} {i:Nat} {vs:List V} {xs:List Value} (h0:aP I5 w C B fr as hh s) (hp:as[n]?=some p) (hn:bv hh n=some zs) (hv:aj as s.heap vs xs):
  d9 I5 w C B fr A as s (vZ .list i) (.ref p.1::xs) (qw n zs i vs hh):=by
 intro Q E h
 refine ⟨cB _,?_⟩
 obtain ⟨hd,ys,k,g,r⟩:=h0.R.list hp hn
 have hl:_=ys.size:=r.length
 unfold qw at h
 show wpAny _ _ (call (.builtin (wf i)) _) _ _ _
 unfold wf
 by_cases h4:i=0
 ·rw [if_pos h4] at h⊢
  refine ai.opt h fun v e h'=>h'.ifr fun hz h=>?_
  clear h'
  obtain ⟨x,rfl,rx⟩:=cq e hv
  have hz:=of_decide_eq_true hz
  refine append_at g (fun h' hs gD=>?_) (aR (by omega))
  exact ai.turnList (tk:=s.toks) h0 h hp hd (fun a ob ne e=>(hs.2 a ne).trans e) gD g (by rw [Array.toList_push];exact r.append (.cons rx .nil)) .none
 ·rw [if_neg h4] at h⊢
  by_cases h5:i=1
  ·rw [if_pos h5] at h⊢
   refine ai.opt h fun v e h1=>h1.opt fun m hm h2=>h2.opt fun ws hw h3=>h3.ifr fun hc h=>?_
   clear h1 h2 h3
   obtain ⟨hne,hz⟩:=of_decide_eq_true hc
   obtain ⟨x,rfl,rx⟩:=cq e hv
   rw [V.ref_of hm] at rx
   obtain ⟨p',hp',rfl⟩:=rx.inv
   obtain ⟨-,us,k',g',r'⟩:=h0.R.list hp' hw
   have hl':_=us.size:=r'.length
   obtain ⟨⟨k2,gD⟩,kp⟩:=fR (f:=fun x=>x++us) g
   refine call_meets F.slot_list_extend (au g).typeIs F.entry_list_extend (F.args_list_extend_2 _ _) (AutoSeq1.list_extend_list_list_0 p.1 ys k _ us k' (by
     have:Builtin.List.listTooLong (ys.size+us.size)=false:=decide_eq_false (Nat.not_lt.mpr (aR (by omega)))
     rw [this,Bool.and_false];decide) (aR (by omega)) (by have:sizeLine=16777216:=rfl;omega)) ⟨g,g',?_⟩
   exact ai.turnList (tk:=s.toks) h0 h hp hd (fun a ob ne e=>kp a ob ne e) gD g (by rw [Array.toList_append];exact r.append r') .none
  ·rw [if_neg h5] at h⊢
   by_cases h6:i=2
   ·rw [if_pos h6] at h
    refine ai.ifr h fun hc h1=>h1.opt fun v hv' h=>?_
    clear h1
    refine a7 hc fun hc hz=>?_
    rw [aL hc] at hv
    rw [show xs=[] from hv.inv]
    have hz:=of_decide_eq_true hz
    obtain ⟨hpos,e⟩:=zV hv'
    obtain ⟨y,hy,rv⟩:=r.look e
    rw [hl,Array.getElem?_toList] at hy
    obtain ⟨⟨k2,gD⟩,kp⟩:=fR (f:=fun xs=>xs.eraseIdxIfInBounds (ys.size - 1)) g
    refine call_meets F.slot_list_pop (au g).typeIs F.entry_list_pop (F.args_list_pop_1 _) (MeetsSeq.list_pop_last p.1 ys k _ hy (aR (by omega))) ⟨g,?_⟩
    refine ai.turnList (tk:=s.toks) h0 h hp hd (fun a ob ne e=>kp a ob ne e) gD g ?_ rv
    rw [show (ys.eraseIdxIfInBounds (ys.size - 1)).toList=ys.toList.take (zs.length - 1) by
     unfold Array.eraseIdxIfInBounds
     rw [dif_pos (by omega),Array.toList_eraseIdx,hl,<-Array.length_toList,List.eraseIdx_length_sub_one,List.dropLast_eq_take],List.dropLast_eq_take]
    exact r.take _
   ·rw [if_neg h6] at h
    exact h.elim
theorem oF {n:Nat} {p:Addr×Addr} {es:List (Key×V)} {i:Nat} {vs:List V} {xs:List Value} (FX:aU C P B K) (hu:A.units+2 < cLine) (h0:aP I5 w C B fr as hh s) (hp:as[n]?=some p) (hn:getD hh n=some es) (hv:aj as s.heap vs xs):
  d9 I5 w C B fr A as s (vZ .dict i) (.ref p.1::xs) (wc es i vs hh):=by
 intro Q E h
 refine ⟨cB _,?_⟩
 obtain ⟨-,r⟩:=h0.R.dict hp hn
 refine ai.ifr h fun hc h1=>h1.opt fun kd e h2=>h2.opt fun q hk h=>?_
 clear h1 h2
 obtain ⟨x,y,rfl,rx,ry⟩:=iS e hv
 have nsys:=h0.R.notSys FX hp
 obtain ⟨h1,h2⟩:=iz hk
 rcases q with z|ks
 ·rw [show kd.1=_ from h1] at rx
  obtain ⟨t,e1⟩:=rx.inv
  rw [e1]
  obtain ⟨kvs,Dt,S⟩:=lS r h2
  have hl:=S.look z
  refine wpAny_call (codeAny_call_builtin F.slot_dict_get.plain F.entry_dict_get (F.slot_dict_get.check _ _ _ _ _ _ _ _ Dt.typeIs (F.args_dict_get_3 _ _ _) (meets_dict_get_default (strKind I5 w) p.1 (bO z t) nsys _ A (wants Q E) s ⟨_,Dt.mapOf,?_⟩)))
  show Q _ _
  rcases hz:es.lookup (.s z) with _|v
  ·rw [hz] at hl h
   rw [show valueAt kvs (ah z)=none from hl]
   exact ai.here (tk:=s.toks+1) h0 h ry
  ·rw [hz] at hl h
   obtain ⟨y',hy,rv⟩:=hl
   rw [hy]
   exact ai.here (tk:=s.toks+1) h0 h rv
 ·obtain ⟨us,e1,hm⟩:=h1
  rw [e1] at rx
  obtain ⟨a,ys,e2,tb,rb⟩:=rx.inv
  rw [e2]
  obtain ⟨rows,Dt,S⟩:=sZ r h2
  have hl:=S.look ks
  refine wpAny_call (codeAny_call_builtin F.slot_dict_get.plain F.entry_dict_get (F.slot_dict_get.check _ _ _ _ _ _ _ _ Dt.typeIs (F.args_dict_get_3 _ _ _) (meetsH_dict_get_default (tupleKind (eG I5 w)) p.1 _ nsys _ A (wants Q E) s ⟨by show A.in1.units < cLine;simp;omega,ks,rows,eo hm tb rb,Dt,?_⟩)))
  show Q _ _
  rcases hz:es.lookup (.t ks) with _|v
  ·rw [hz] at hl h
   rw [show atKey rows ks=none from hl]
   exact ai.here (tk:=s.toks+(tupleKind (eG I5 w)).draws ks) h0 h ry
  ·rw [hz] at hl h
   obtain ⟨a',y',hy,rv⟩:=hl
   rw [hy]
   exact ai.here (tk:=s.toks+(tupleKind (eG I5 w)).draws ks) h0 h rv
end
end
section
open W PyProof.Rows SeqAt
section
variable {I5:Program} {w:World} {C:CV} {P:PT} {K:Frag} {B:Heap} {fr:List Env} {own:Addr->Prop} {A:Around} {E:Value->Shared->Prop} {as as':AS} {s s':Shared} {hh hh':H} {env:Env} {ρ:Loc} {cf:V->List V->PM V} {n:Nat}
theorem rH {K:Type} [DecidableEq K] {knd:KeyKind I5 w K} {d:Addr} {kvs:List (K×Value)} {k:K} {key v:Value} {Q:Unit->Shared->Prop} (hkey:knd.is k key=true) (hm:s.heap.DictOf knd d kvs)
  (hQ:∀h',h'.DictOf knd d (stored kvs k v)->Heap.SameBut d s.heap h'->dA s.heap h' d->Q () { s with heap:=h',toks:=s.toks+1 }) (hsz:kvs.length<=sizeLine):wpAny (model I5 w) A (PySem.dictSet d key v) Q E s:=by
 obtain ⟨o,es,ep,ho,hc,hd,hk,hp,hn⟩:=hm
 have hes:es.size<=sizeLine:=by have e1:=hp.length;simp at e1;omega
 have one:∀{h':Heap} {o':Obj} {es':Array DictEntry} {ep':Nat},h'.get? d=some o'->o'.cls=.type "dict" -> o'.data=.dict es' ep'->es.size<=es'.size->(es.size=es'.size->ep=ep')->dA s.heap h' d:=fun {h' o' es' ep'} g c dd l e o1 es1 ep1 g1 c1 d1=>by
  rw [ho] at g1;cases g1
  rw [hd] at d1;cases d1
  exact ⟨o',es',ep',g,c,dd,l,e⟩
 have hidx:(es.findIdx? fun e=>knd.is k e.key)=kvs.findIdx? fun kv=>decide (kv.1=k):=by
  rw [<-hp.findIdx k];obtain ⟨l⟩:=es;simp
 unfold PySem.dictSet
 refine wpAny_holding (wpAny_bind (knd.pyHash hkey ?_))
 unfold dictSetHashed
 refine wpAny_holding (wpAny_bind (wpAny_dictFind_of (s:={ s with toks:=s.toks+1 }) hkey ho hd hk ?_))
 cases hi:es.findIdx? fun e=>knd.is k e.key with
 |some i=>
  have g':=HX (Obj.mapDict (fun es=>es.modify i fun e=>{ e with val:=v })) ho (Obj.isFreed_of_dict (Obj.data_mapDict hd _))
  have hl:(es.toList.findIdx? fun e=>knd.is k e.key)=some i:=by rw [<-hi];obtain ⟨l⟩:=es;simp
  refine wpAny_bind (wpAny_rule (wpAny_bind (wpAny_updateDict (s:={ s with toks:=s.toks+1 }) ho hd (wpAny_point (hQ _ ⟨_,_,ep,g',hc.mapDict _,Obj.data_mapDict hd _,hk.modify _ _,?_,?_⟩ (Heap.SameBut.update ..) (one g' (hc.mapDict _).1 (Obj.data_mapDict hd _) (by simp) fun Z=>rfl))))))
  ·rw [stored,if_pos (any_of_findIdx_some (hidx▸hi))]
   have:=hp.modify hn hl v
   obtain ⟨l⟩:=es
   simpa using this
  ·rw [stored,if_pos (any_of_findIdx_some (hidx▸hi)),keys_map_store];exact hn
 |none=>
  have hnot:k∉kvs.map (·.1):=not_mem_of_findIdx_none (hidx▸hi)
  have hany:¬(kvs.any fun kv=>decide (kv.1=k))=true:=by
   rw [List.any_eq_true];rintro ⟨kv,hkv,he⟩
   exact hnot (List.mem_map.mpr ⟨kv,hkv,of_decide_eq_true he⟩)
  have g':=HX (Obj.mapDictKeys (fun es=>es.push ⟨knd.hash k,key,v⟩)) ho (Obj.isFreed_of_dict (Obj.data_mapDictKeys hd _))
  refine wpAny_bind (wpAny_rule (wpAny_updateDictKeys (hz:=hes) (s:={ s with toks:=s.toks+1 }) ho hd (hQ _ ⟨_,_,ep+1,g',hc.mapDictKeys _,Obj.data_mapDictKeys hd _,hk.push hkey _,?_,?_⟩ (Heap.SameBut.update ..) (one g' (hc.mapDictKeys _).1 (Obj.data_mapDictKeys hd _) (by simp) fun e=>by simp at e))))
  ·rw [stored,if_neg hany]
   have:=hp.append hkey (knd.hash k) v
   obtain ⟨l⟩:=es
   simpa using this
  ·rw [stored,if_neg hany,List.map_append,List.nodup_append]
   refine ⟨hn,by simp,fun a ha b hb=>?_⟩
   simp only [List.map_cons,List.map_nil,List.mem_singleton] at hb
   subst hb
   exact fun e=>hnot (e▸ha)
theorem rI {K:Type} [DecidableEq K] {knd:HeapKind I5 w K} {d a:Addr} {xs:List (K×Addr×Value)} {k:K} {v:Value} {Q:Unit->Shared->Prop} (hu:knd.room A) (hkey:knd.is s.heap k a) (hm:s.heap.DictOfH knd d xs)
  (hQ:∀h',h'.DictOfH knd d (storedH xs k a v)->Heap.SameBut d s.heap h'->dA s.heap h' d->Q () { s with heap:=h',toks:=s.toks+knd.draws k }) (hsz:xs.length<=sizeLine):wpAny (model I5 w) A (PySem.dictSet d (.ref a) v) Q E s:=by
 obtain ⟨o,es,ep,ho,hc,hd,he,his,hn⟩:=hm
 have hz:=size_of_entries he
 have one:∀{h':Heap} {o':Obj} {es':Array DictEntry} {ep':Nat},h'.get? d=some o'->o'.cls=.type "dict" -> o'.data=.dict es' ep'->es.size<=es'.size->(es.size=es'.size->ep=ep')->dA s.heap h' d:=fun {h' o' es' ep'} g c dd l e o1 es1 ep1 g1 c1 d1=>by
  rw [ho] at g1;(injection g1 with g1;subst g1)
  rw [hd] at d1;cases d1
  exact ⟨o',es',ep',g,c,dd,l,e⟩
 unfold PySem.dictSet
 refine wpAny_holding (wpAny_bind (knd.pyHash hu hkey ?_))
 unfold dictSetHashed
 refine wpAny_holding (wpAny_bind (wpAny_dictFind_heap (s:={ s with toks:=s.toks+knd.draws k }) hu hkey ho hd he his hn ?_ ?_))
 ·intro hno
  have hnot:k∉xs.map (·.1):=not_mem_keys_of_get hno
  have g':=HX (Obj.mapDictKeys (fun es=>es.push ⟨knd.hash k,.ref a,v⟩)) ho (Obj.isFreed_of_dict (Obj.data_mapDictKeys hd _))
  refine wpAny_bind (wpAny_rule (wpAny_updateDictKeys (hz:=by omega) (s:={ s with toks:=s.toks+knd.draws k }) ho hd (hQ _ ⟨_,_,ep+1,g',hc.mapDictKeys _,Obj.data_mapDictKeys hd _,?_,?_,?_⟩ (Heap.SameBut.update ..) (one g' (hc.mapDictKeys _).1 (Obj.data_mapDictKeys hd _) (by simp) fun e=>by simp at e))))
  ·rw [storedH_new (atKey_none_of_get hno)];simp [he,entryOfKey]
  ·rw [storedH_new (atKey_none_of_get hno)]
   intro x hx
   rcases List.mem_append.mp hx with hx|hx
   ·exact knd.keeps (his x hx) ho hd (Heap.SameBut.update ..)
   ·obtain rfl:=List.mem_singleton.mp hx
    exact knd.keeps hkey ho hd (Heap.SameBut.update ..)
  ·rw [storedH_new (atKey_none_of_get hno),List.map_append,List.nodup_append]
   refine ⟨hn,by simp,fun x hx y hy=>?_⟩
   simp only [List.map_cons,List.map_nil,List.mem_singleton] at hy
   subst hy
   exact fun e=>hnot (e▸hx)
 ·intro j p hj
  have g':=HX (Obj.mapDict (fun es=>es.modify j fun e=>{ e with val:=v })) ho (Obj.isFreed_of_dict (Obj.data_mapDict hd _))
  refine wpAny_bind (wpAny_rule (wpAny_bind (wpAny_updateDict (s:={ s with toks:=s.toks+knd.draws k }) ho hd (wpAny_point (hQ _ ⟨_,_,ep,g',hc.mapDict _,Obj.data_mapDict hd _,?_,?_,?_⟩ (Heap.SameBut.update ..) (one g' (hc.mapDict _).1 (Obj.data_mapDict hd _) (by simp) fun Z=>rfl))))))
  ·rw [storedH_old (atKey_of_get hn hj)]
   have:=modify_map_putAt (entryOfKey knd) (fun e:DictEntry=>{ e with val:=v }) k v (fun Z Z=>rfl) hn hj
   rw [<-he] at this
   obtain ⟨l⟩:=es
   simpa using this
  ·rw [storedH_old (atKey_of_get hn hj)]
   intro x hx
   obtain ⟨y,hy,rfl⟩:=List.mem_map.mp hx
   unfold putAt
   split<;>exact knd.keeps (his y hy) ho hd (Heap.SameBut.update ..)
  ·rw [storedH_old (atKey_of_get hn hj),keys_map_putAt];exact hn
theorem ij {d:Addr} {key v:Value} {Q:Unit->Shared->Prop} (hT:s.TypeIs (.ref d) "dict") (h:wpAny (model I5 w) A.in1 (PySem.dictSet d key v) Q E s):wpAny (model I5 w) A (PySem.setItem (.ref d) key v) Q E s:=by
 unfold PySem.setItem
 refine wpAny_holding (wpAny_bind (wpAny_sequenceKey hT (by decide) ?_))
 refine wpAny_bind (wpAny_callSpecial?_slot (name:=Str.ofString "__setitem__") hT slot_dict_setitem (wpAny_call_entry slot_dict_setitem hT entry_dict_setitem ?_ (args_dict_setitem _ _ _)))
 show wpAny _ _ (Builtin.Dict.notOrdered "__setitem__" ⟨[.ref d,key,v],[]⟩ >>= _) _ _ s
 refine wpAny_bind (wpAny_notOrdered_dict hT ?_)
 show wpAny _ _ (PySem.dictSet d key v >>= _) _ _ s
 exact wpAny_bind (wpAny_mono h (fun Z Z q=>wpAny_pure ⟨.none,rfl,wpAny_pure q⟩) fun Z Z e=>e)
theorem bi.keys {h:Heap} {es:List (Key×V)} {l:List (Str×Value)} (S:bi as h es l) (x:List Nat):(es.lookup (.s x)).isSome=l.any fun kv=>decide (kv.1=ah x):=by
 induction S with
 |nil=>rfl
 |@cons z u w r l _ _ ih=>
  rw [so,List.any_cons]
  by_cases hz:z=x
  ·rw [hz,beq_self_eq_true,decide_eq_true rfl];rfl
  ·rw [dO (a:=Key.s x) (b:=Key.s z) fun e=>hz (by (injection e with e;subst e);rfl),decide_eq_false fun e=>hz (db e)];exact ih
theorem bi.mapSet {h:Heap} {es:List (Key×V)} {l:List (Str×Value)} (S:bi as h es l) (x:List Nat) {v:V} {y:Value} (rv:am as h v y):bi as h (es.map fun e=>if e.1=Key.s x then (e.1,v) else e) (l.map fun kv=>if kv.1=ah x then (kv.1,y) else kv):=by
 induction S with
 |nil=>exact .nil
 |@cons z u w r l r1 _ ih=>
  rw [List.map_cons,List.map_cons]
  by_cases hz:z=x
  ·rw [if_pos (show Key.s z=Key.s x by rw [hz]),if_pos (show ah z=ah x by rw [hz])];exact .cons rv ih
  ·rw [if_neg fun e=>hz (by cases e;rfl),if_neg fun e=>hz (db e)];exact .cons r1 ih
theorem bi.snoc {h:Heap} {es:List (Key×V)} {l:List (Str×Value)} (S:bi as h es l) (x:List Nat) {v:V} {y:Value} (rv:am as h v y):bi as h (es++[(Key.s x,v)]) (l++[(ah x,y)]):=by
 induction S with
 |nil=>exact .cons rv .nil
 |cons r1 _ ih=>exact .cons r1 ih
theorem bi.store {h:Heap} {es:List (Key×V)} {l:List (Str×Value)} (S:bi as h es l) (x:List Nat) {v:V} {y:Value} (rv:am as h v y):bi as h (Mine.dictSet (.s x) v es) (stored l (ah x) y):=by
 unfold Mine.dictSet stored
 rw [S.keys]
 by_cases c:(l.any fun kv=>decide (kv.1=ah x))=true
 ·rw [if_pos c,if_pos c];exact S.mapSet x rv
 ·rw [if_neg c,if_neg c];exact S.snoc x rv
theorem di.mapSet {h:Heap} {es:List (Key×V)} {l:List (List FK×Addr×Value)} (S:di as h es l) (x:List FK) {v:V} {y:Value} (rv:am as h v y):di as h (es.map fun e=>if e.1=Key.t x then (e.1,v) else e) (l.map (putAt x y)):=by
 induction S with
 |nil=>exact .nil
 |@cons z u b w r l r1 _ ih=>
  rw [List.map_cons,List.map_cons]
  unfold putAt at ih⊢
  by_cases hz:z=x
  ·rw [if_pos (show Key.t z=Key.t x by rw [hz]),if_pos (show z=x from hz)];exact .cons rv ih
  ·rw [if_neg fun e=>hz (by cases e;rfl),if_neg (show ¬z=x from hz)];exact .cons r1 ih
theorem di.snoc {h:Heap} {es:List (Key×V)} {l:List (List FK×Addr×Value)} (S:di as h es l) (x:List FK) {a:Addr} {v:V} {y:Value} (rv:am as h v y):di as h (es++[(Key.t x,v)]) (l++[(x,a,y)]):=by
 induction S with
 |nil=>exact .cons rv .nil
 |cons r1 _ ih=>exact .cons r1 ih
theorem di.store {h:Heap} {es:List (Key×V)} {l:List (List FK×Addr×Value)} (S:di as h es l) (x:List FK) {a:Addr} {v:V} {y:Value} (rv:am as h v y):di as h (Mine.dictSet (.t x) v es) (storedH l x a y):=by
 have keys:(es.lookup (.t x)).isSome=(atKey l x).isSome:=by
  have q:=S.look x
  cases hq:es.lookup (.t x) with
  |none=>rw [hq] at q;rw [show atKey l x=none from q];rfl
  |some v=>rw [hq] at q;obtain ⟨a,y,e,_⟩:=q;rw [e];rfl
 unfold Mine.dictSet storedH
 rw [keys]
 by_cases c:(atKey l x).isSome=true
 ·rw [if_pos c,if_pos c];exact S.mapSet x rv
 ·rw [if_neg c,if_neg c];exact S.snoc x rv
theorem ai.turnDict {Q:Unit->Shared->Prop} {es:List (Key×V)} {n:Nat} {p:Addr×Addr} {h':Heap} {tk:Nat} (h0:aP I5 w C B fr as hh s) (h:ai I5 w C B (fun _ _ (_:Unit) (_:Unit)=>True) fr ay as s (.ok () (hh.set n (.dict es))) Q E)
  (hp:as[n]?=some p) (hd:p.2=p.1) (hs:Heap.SameBut p.1 s.heap h') (he:dA s.heap h' p.1) (lv:(h'.get? p.1).isSome=true)
  (q:(∀{v x},am as s.heap v x->am as h' v x)->DictAt I5 w as h' p.1 es):Q () { s with heap:=h',toks:=tk }:=by
 have kp:∀a ob,a≠p.1->s.heap.get? a=some ob->h'.get? a=some ob:=fun a ob ne e=>(hs.2 a ne).trans e
 have fp:foot as p.1:=⟨p,we hp,.inl rfl⟩
 have mv:=am.mono' (as:=as) (as':=as) (h:=s.heap) (h':=h') ⟨[],(th as).symm⟩ fun a ob e' sd=>kp a ob (fun z=>h0.R.offSolid e' sd (z▸fp)) e'
 exact h as { s with heap:=h',toks:=tk } () (aI.turn (p:=p) (s':={ s with heap:=h',toks:=tk }) h0 hp (fun a ob h1 Z e=>kp a ob h1 e) (by rw [hd];exact ⟨lv,lv⟩) (by rw [hd];exact ⟨he,he⟩) ⟨hd,q mv.1⟩ rfl rfl) trivial
theorem aj.set {h:Heap}:∀{xs:List V} {ys:List Value},aj as h xs ys->∀(j:Nat) {v:V} {z:Value},am as h v z->aj as h (xs.set j v) (ys.set j z)
 |[],_,r,_,_,_,_=>by rw [show _=[] from r.inv];exact .nil
 |_::_,_,r,j,_,_,rv=>by
  obtain ⟨y,ys,rfl,r1,r2⟩:=r.inv
  rcases j with _|j
  ·exact .cons rv r2
  ·exact .cons r1 (r2.set j rv)
theorem o6 {a i v:V} {x y z:Value} (hu:A.units+2 < cLine) (h0:aP I5 w C B fr as hh s) (ha:am as s.heap a x) (hi:am as s.heap i y) (hv:am as s.heap v z):
  Sim I5 w C B (fun _ _ (_:Unit) (_:Unit)=>True) fr ay A (PySem.setItem x y z) (setItem a i v hh) as s:=by
 intro Q E h
 refine ai.opt h fun n hn h1=>h1.opt fun o ho h2=>h2.opt fun o' ho' h=>?_
 clear h1 h2
 rw [V.ref_of hn] at ha
 obtain ⟨p,hp,rfl⟩:=ha.inv
 rcases o with xs|es|_
 ·refine a8 ho' fun k hk e=>?_
  refine aJ e fun hc e=>?_
  refine a7 hc fun hc hsm=>?_
  obtain ⟨k0,hlt⟩:=of_decide_eq_true hc
  rw [V.int_of hk] at hi
  obtain ⟨t,e1⟩:=hi.inv
  rw [<-be e] at h
  rw [e1]
  obtain ⟨hd,ys,k',g,r⟩:=h0.R.obj n _ p ho hp
  have hl:_=ys.size:=r.length
  obtain ⟨⟨k2,gD⟩,kp⟩:=fR (f:=fun x=>x.setIfInBounds k.toNat z) g
  refine ki_setAt g k0 (eQ hsm).2 ((Int.toNat_lt k0).1 (hl▸hlt)) ?_
  obtain ⟨p,_⟩:=aI.turnList (own:=ay) (hh:=hh) (zs:=xs.set k.toNat v) s.toks h0 hp hd (fun a ob ne e=>kp a ob ne e) gD g (by rw [Array.toList_setIfInBounds];exact r.set _ hv)
  exact h as _ () p trivial
 ·refine a8 ho' fun q hk e=>?_
  refine aJ e fun hz e=>?_
  have hz:=of_decide_eq_true hz
  rw [<-be e] at h
  obtain ⟨hd,r⟩:=h0.R.obj n _ p ho hp
  obtain ⟨h1,h2⟩:=iz hk
  rcases q with c|ks
  ·rw [show i=_ from h1] at hi
   obtain ⟨t,e1⟩:=hi.inv
   rw [e1]
   obtain ⟨kvs,D,S⟩:=lS r h2
   have hlen:=S.length
   refine ij D.typeIs (rH (bO c _) D (fun h' D' hs he=>?_) (aR (by omega)))
   exact ai.turnDict h0 h hp hd hs he (by obtain ⟨o,_,_,g,_⟩:=D';rw [g];rfl) fun mv=>.inl ⟨_,D',(S.store c hv).move mv⟩
  ·obtain ⟨us,e1,hm⟩:=h1
   rw [e1] at hi
   obtain ⟨a',ys,e2,tb,rb⟩:=hi.inv
   rw [e2]
   obtain ⟨rows,D,S⟩:=sZ r h2
   have hlen:=S.length
   refine ij D.typeIs (rI (knd:=tupleKind (eG I5 w)) (by show A.in1.units < cLine;simp;omega) (eo hm tb rb) D (fun h' D' hs he=>?_) (aR (by omega)))
   exact ai.turnDict h0 h hp hd hs he (by obtain ⟨o,_,_,g,_⟩:=D';rw [g];rfl) fun mv=>.inr ⟨_,D',(S.store ks hv).move mv⟩
 ·exact aw ho'
end
end
section
open W PyProof.Rows SeqAt
section
variable {I5:Program} {w:World} {C:CV} {P:PT} {K:Frag} {B:Heap} {fr:List Env} {own:Addr->Prop} {A:Around} {Q:Value->Shared->Prop} {E:Value->Shared->Prop} {as as':AS} {s s':Shared} {hh hh':H} {env:Env} {ρ:Loc} {cf:V->List V->PM V} {n:Nat}
def sm (o:Obj):Prop:=o.cls≠.type "list" /\ o.cls≠.type "dict" /\ o.data≠.plain/\hard o/\¬solid o
structure Own (B:Heap) (fr:List Env) (Ch:Addr->Prop) (as:AS) (h:Heap):Prop where
 new:∀a,Ch a->B.get? a=none
 off:∀a,Ch a->¬foot as a
 at_:∀a,Ch a->∃o,h.get? a=some o/\¬solid o
 frs:∀a,Ch a->¬bc fr a
theorem bW.but {h h':Heap} {Ch:Addr->Prop} (R:bW I5 w C B as hh h) (O:Own B fr Ch as h) (k:∀a o,¬Ch a->h.get? a=some o->h'.get? a=some o):bW I5 w C B as hh h':=by
 have nf:∀a,foot as a->¬Ch a:=fun a f c=>O.off a c f
 have ns:∀a o,h.get? a=some o->solid o->¬Ch a:=fun a o g sd c=>by
  obtain ⟨o',g',l⟩:=O.at_ a c
  rw [g] at g';(injection g' with g';subst g');exact l sd
 refine ⟨fun a o e=>k a o (fun c=>by rw [O.new a c] at e;injection e) (R.base a o e),R.len,R.new,R.apart,fun i o p h1 h2=>(R.obj i o p h1 h2).move (fun a ob e g=>k a ob (nf a ⟨p,we h2,e⟩) g)
  (am.mono' (as':=as) ⟨[],(th as).symm⟩ fun a o e sd=>k a o (ns a o e sd) e).1 (am.mono' (as':=as) ⟨[],(th as).symm⟩ fun a o e sd=>k a o (ns a o e sd) e).2 fun a ob c d g=>k a ob (ns a ob g (.inl ⟨c,d⟩)) g⟩
theorem lF.but {h h':Heap} {Ch:Addr->Prop} (F:lF B fr h) (O:Own B fr Ch as h) (k:∀a o,¬Ch a->h.get? a=some o->h'.get? a=some o):lF B fr h':=by
 refine ⟨cC (fun e he L hL o g=>k L o (fun z=>O.frs L z ⟨e,he,hL⟩) g) F.1,fun env he=>?_⟩
 ·obtain ⟨L,o,hL,g,c⟩:=F.2 env he
  exact ⟨L,o,hL,k L o (fun z=>O.frs L z ⟨env,he,hL⟩) g,c⟩
theorem aI.but {s':Shared} {Ch:Addr->Prop} (h0:aP I5 w C B fr as hh s) (O:Own B fr Ch as s.heap) (k:∀a o,¬Ch a->s.heap.get? a=some o->s'.heap.get? a=some o) (hg:s'.gens=s.gens) (ho:s'.os=s.os):aI I5 w C B fr (fun a=>own a\/Ch a) as s as hh s':=
 ⟨⟨⟨[],(th as).symm,fun Z hp=>nomatch hp⟩,fun a o e Z no Z=>⟨o,k a o (fun c=>no (.inr c)) e,.refl o⟩,fun a e no=>by
   rcases q:s.heap.get? a with _|o
   ·rw [q] at e;injection e
   ·rw [k a o (fun c=>no (.inr c)) q];rfl,fun a no=>.keep fun o e=>k a o (fun c=>no (.inr c)) e⟩,h0.R.but O k,h0.F.but O k,hg,ho⟩
variable (I5 w C B fr own A) in
structure dz (I:Addr) (Ch:Addr->Prop) (tg:Expr) (nx:Nat->H->Option (Option V)) (St:Nat->AS->Heap->Prop) (RI:AS->Heap->V->Value->Prop:=am):Prop where
 own_:∀i as h,St i as h->∀a,Ch a->∃o,h.get? a=some o/\sm o
 move:∀i as h as' h',St i as h->(∃r,as'=as++r)->(∀a o,Ch a\/solid o->h.get? a=some o->h'.get? a=some o)->(∀a,foot as a->dA h h' a)->St i as' h'
 item:∀i as hh (s:Shared) (v:V) (Kx:Value->Shared->Prop) (E:Value->Shared->Prop),aP I5 w C B fr as hh s->St i as s.heap->nx i hh=some (some v)->
  (∀x h' tk,St (i+1) as h'->(∀b o,¬Ch b->s.heap.get? b=some o->h'.get? b=some o)->RI as h' v x->Kx x { s with heap:=h',toks:=tk })->
  wpAny (model I5 w) A (pyNext (.ref I)) (fun r s₁=>∃x,r=some x/\wpAny (model I5 w) A (letOwnedTupleGo tg (.ref I) x) (fun Z I6=>Kx x I6) E s₁) E s
 done:∀i as hh (s:Shared) (Kd:Shared->Prop) (E:Value->Shared->Prop),aP I5 w C B fr as hh s->St i as s.heap->nx i hh=some none->
  (∀h' tk,(∀b o,¬Ch b->s.heap.get? b=some o->h'.get? b=some o)->Kd { s with heap:=h',toks:=tk })->wpAny (model I5 w) A (pyNext (.ref I)) (fun r s₁=>r=none/\Kd s₁) E s
 self:∀i as (s:Shared) (Q:Value->Shared->Prop) (E:Value->Shared->Prop),St i as s.heap->Q (.ref I) s->wpAny (model I5 w) A (pyIter (.ref I)) Q E s
theorem dh.offFoot {own:Addr->Prop} {as as':AS} {h h':Heap} (x:dh own as h as' h') {a:Addr} (al:(h.get? a).isSome=true) (nf:¬foot as a):¬foot as' a:=fun f=>by
 obtain ⟨⟨r,rfl,hr⟩,_,_,_⟩:=x
 rcases bE.mp f with f|⟨p,hp,e⟩
 ·exact nf f
 ·rcases e with rfl|rfl
  ·rw [(hr p hp).1.1] at al;injection al
  ·rw [(hr p hp).1.2] at al;injection al
noncomputable def iv (T:String):Bool:=!["enumerate","zip","dict_itemiterator","dict_reverseitemiterator","odict_iterator","itertools.zip_longest","itertools.pairwise"].contains T
theorem ua {tg:Expr} {es:List Expr} {k:Nat} {p:Pos} {I:Addr} {x:Value} {o:Obj} {T:String} {K:Unit->Shared->Prop} (g:s.heap.get? I=some o) (c:o.cls=.type T) (hT:iv T=true) (h:K () s):wpAny (model I5 w) A (letOwnedTupleGo (.Tuple es k p) (.ref I) x) K E s:=by
 induction x using PySem.Value.casesOn with
 |ref a=>
  refine wpAny_bind (wpAny_load g ?_)
  rw [c]
  induction o.data using PySem.Data.casesOn with
  |fields vs=>
   show wpAny _ _ (if ([_,_,_,_,_,_,_].contains T&&_)=true then _ else _) _ _ _
   rw [(Bool.not_eq_true' _).mp hT]
   exact wpAny_pure h
  |_=>exact wpAny_pure h
 |_=>exact wpAny_pure h
theorem dI {tg:Expr} {I:Addr} {x:Value} {o:Obj} {T:String} {K:Unit->Shared->Prop} (g:s.heap.get? I=some o) (c:o.cls=.type T) (hT:iv T=true) (h:K () s):wpAny (model I5 w) A (letOwnedTupleGo tg (.ref I) x) K E s:=by
 induction tg using Expr.casesOn with
 |Tuple es k p=>exact ua (tg:=.Tuple es k p) g c hT h
 |List es p=>exact ua (tg:=.Tuple es 0 p) (es:=es) (k:=0) (p:=p) g c hT h
 |_=>exact wpAny_pure h
end
end
section
open W PyProof.Rows SeqAt
section
variable {I5:Program} {w:World} {C:CV} {P:PT} {K:Frag} {B:Heap} {fr:List Env} {own:Addr->Prop} {A:Around} {Q:Value->Shared->Prop} {E:Value->Shared->Prop} {as as':AS} {s s':Shared} {hh hh':H} {env:Env} {ρ:Loc} {cf:V->List V->PM V} {n:Nat}
theorem cQ {T:String} {vs:Array Value} {o:Obj} (c:o.cls=.type T) (d:o.data=.fields vs) (hT:(T == "list" || T == "dict" || T == "frame" || (T == "tuple" || T == "range"))=false):sm o:=by
 obtain ⟨h,h3⟩:=Bool.or_eq_false_iff.mp hT
 obtain ⟨h,h2⟩:=Bool.or_eq_false_iff.mp h
 obtain ⟨h0,h1⟩:=Bool.or_eq_false_iff.mp h
 exact ⟨fun e=>beq_eq_false_iff_ne.mp h0 (Value.type.inj (c.symm.trans e)),fun e=>beq_eq_false_iff_ne.mp h1 (Value.type.inj (c.symm.trans e)),(by rw [d];nofun),gQ c h2,oP c h3⟩
theorem qC {I:Addr} {p:Addr×Addr} {n:Nat} {all:List V} {tg:Expr} (hA:A.handled=none):dz I5 w C B fr A I (·=I) tg (b5 true (.ref n) all) (fun i as h=>as[n]?=some p/\h.IsListIter I p.1 i) where
 own_:=fun i as h st a ha=>by
  obtain ⟨o,g,c,d⟩:=st.2
  exact ⟨o,ha▸g,cQ c d (by decide)⟩
 move:=fun i as h as' h' st hx k e=>by
  obtain ⟨r,hr⟩:=hx
  obtain ⟨hp,o,g,c,d⟩:=st
  obtain ⟨hn,_⟩:=List.getElem?_eq_some_iff.mp hp
  exact ⟨by rw [hr,HK hn];exact hp,o,k _ _ (.inl rfl) g,c,d⟩
 item:=fun i as hh s v Kx E h0 st hn hQ=>by
  obtain ⟨hp,hit⟩:=st
  refine aW (show (bv hh n).map _=_ from hn) fun xs hx hn=>?_
  obtain ⟨-,ys,k,g,r⟩:=h0.R.list hp hx
  obtain ⟨y,hy,rv⟩:=r.look hn
  rw [Array.getElem?_toList] at hy
  refine wpAny_pyNext_list_item hit (au g) hy fun h' hit' hs=>⟨y,rfl,?_⟩
  obtain ⟨o',g',c',d'⟩:=id hit'
  have kp:∀b o,¬(b=I)->s.heap.get? b=some o->h'.get? b=some o:=fun b o ne e=>(hs.2 b ne).trans e
  refine dI (s:={ s with heap:=h' }) g' c' (by decide) (hQ _ h' s.toks ⟨hp,hit'⟩ kp ?_)
  refine (am.mono' (as':=as) ⟨[],(th as).symm⟩ fun a o e sd=>kp a o (fun z=>?_) e).1 rv
  obtain ⟨o2,g2,c2,d2⟩:=hit
  rw [z,g2] at e
  (injection e with e;subst e)
  exact (cQ c2 d2 (by decide)).2.2.2.2 sd
 done:=fun i as hh s Kd E h0 st hn hQ=>by
  obtain ⟨hp,hit⟩:=st
  refine aW (show (bv hh n).map _=_ from hn) fun xs hx hn=>?_
  obtain ⟨-,ys,k,g,r⟩:=h0.R.list hp hx
  have hl:_=ys.size:=r.length
  have hi:=List.getElem?_eq_none_iff.mp hn
  exact wpAny_pyNext_list_end hA hit (au g) (Array.getElem?_eq_none_iff.mpr (hl▸hi)) fun h' hs=>⟨rfl,hQ h' s.toks fun b o ne e=>hs b o ne e⟩
 self:=fun i as s Q E st q=>wpAny_pyIter_listiter st.2 q
theorem gV {I:Addr} {fp:List Addr} {n:Nat} {Pv:Nat->Value->Prop} {St:Nat->Heap->Prop} {tg:Expr} {all:List V} {v:V} {h₀:Heap} {as₀:AS} (W:Walks I5 w A I fp [I] n Pv St) (hn:all.length=n) (hv:v.ref?=none)
  (hI:∀i h,St i h->∃o,h.get? I=some o/\sm o/\∃T,o.cls=.type T/\iv T=true)
  (hfp:∀i h,St i h->∀b∈fp,b≠I->∃o,h.get? b=some o/\solid o)
  (hP:∀i u x,all[i]?=some u->Pv i x->∀as h,(∃r,as=as₀++r)->(∀a o,h₀.get? a=some o->solid o->h.get? a=some o)->am as h u x):
  dz I5 w C B fr A I (·=I) tg (b5 false v all) (fun i as h=>(∃r,as=as₀++r)/\(∀a o,h₀.get? a=some o->solid o->h.get? a=some o)/\i<=n/\St i h) where
 own_:=fun i as h st a ha=>by
  subst ha
  obtain ⟨o,g,l,_⟩:=hI i h st.2.2.2
  exact ⟨o,g,l⟩
 move:=fun i as h as' h' st hx k e=>by
  obtain ⟨r,rfl⟩:=hx
  obtain ⟨⟨r0,rfl⟩,kp,hle,st⟩:=st
  refine ⟨⟨r0++r,by simp⟩,fun a o e sd=>k a o (.inr sd) (kp a o e sd),hle,W.frame i h h' st fun b hb o e=>?_⟩
  by_cases hbI:b=I
  ·exact k b o (.inl hbI) e
  ·obtain ⟨o',g,sd⟩:=hfp i h st b hb hbI
   rw [e] at g;(injection g with g;subst g)
   exact k b o (.inr sd) e
 item:=fun i as hh s u Kx E h0 st hnx hQ=>by
  obtain ⟨hx,kp,hle,st⟩:=st
  have hnx:all[i]?=some u:=by
   unfold b5 at hnx
   rw [hv] at hnx
   exact be hnx
  have hi:i < n:=by rw [<-hn];exact (List.getElem?_eq_some_iff.mp hnx).1
  refine W.item i s _ E hi st fun x h' tk hp st' k=>⟨x,rfl,?_⟩
  obtain ⟨o,g,l,T,c,hT⟩:=hI _ _ st'
  have kp':∀b o,¬(b=I)->s.heap.get? b=some o->h'.get? b=some o:=fun b o ne e=>k b o (by simpa using ne) e
  have kps:∀a o,h₀.get? a=some o->solid o->h'.get? a=some o:=fun a o e sd=>kp' a o (fun z=>by
   subst z
   obtain ⟨o2,g2,l2,_⟩:=hI _ _ st
   have:=kp _ o e sd
   rw [this] at g2;(injection g2 with g2;subst g2)
   exact l2.2.2.2.2 sd) (kp a o e sd)
  exact dI (s:={ s with heap:=h',toks:=tk }) g c hT (hQ x h' tk ⟨hx,kps,hi,st'⟩ kp' (hP i u x hnx hp as h' hx kps))
 done:=fun i as hh s Kd E h0 st hnx hQ=>by
  obtain ⟨hx,kp,hle,st⟩:=st
  have hnx:all[i]?=none:=by
   unfold b5 at hnx
   rw [hv] at hnx
   exact be hnx
  have hge:=List.getElem?_eq_none_iff.mp hnx
  obtain rfl:i=n:=by omega
  exact W.done s _ E st fun h' tk k=>⟨rfl,hQ h' tk fun b o ne e=>k b o (by simpa using ne) e⟩
 self:=fun i as s Q E st q=>W.self i s Q E st.2.2.2 q
def j3 (h:Heap) (D:Addr) (n ep:Nat):Prop:=∃o es ep',h.get? D=some o/\o.cls=.type "dict" /\ o.data=.dict es ep'/\n<=es.size/\(n=es.size->ep=ep')
theorem j3.eps {h h':Heap} {D:Addr} {n ep:Nat} (x:j3 h D n ep) (e:dA h h' D):j3 h' D n ep:=by
 obtain ⟨o,es,ep',g,c,d,l,q⟩:=x
 obtain ⟨o2,es2,ep2,g2,c2,d2,l2,q2⟩:=e o es ep' g c d
 exact ⟨o2,es2,ep2,g2,c2,d2,by omega,fun z=>(q (by omega)).trans (q2 (by omega))⟩
theorem uf {h:Heap} {es:List (Key×V)} {kvs:List (Str×Value)} {l:List V} (S:bi as h es kvs) (hm:cW es=some l):l=kvs.map fun kv=>V.str kv.1.cps.toList:=by
 induction S generalizing l with
 |nil=>exact (be hm).symm
 |@cons x v y r kv _ _ ih=>
  obtain ⟨b,l',h1,h2,rfl⟩:=eT hm
  rw [ih h2,<-be h1]
  rfl
theorem tA:∀{l m:List V},oG l m=some true->(∀v∈l,∃s,v=.str s)->l=m
 |[],[],_,_=>rfl
 |[],_::_,h,_=>by cases h
 |_::_,[],h,_=>by cases h
 |a::x,b::y,h,hs=>by
  obtain ⟨z,hz⟩:=hs a (.head _)
  refine a8 h fun p h1 h=>?_
  refine a8 h fun q h2 h=>?_
  refine a7 (be h) fun hp hq=>?_
  rw [hz,hp] at h1
  rw [hq] at h2
  replace h1:(if b.isNone=true then some false else b.str?.map fun y=>az z y)=some true:=h1
  by_cases c:b.isNone=true
  ·rw [if_pos c] at h1;cases h1
  ·rw [if_neg c] at h1
   refine aW h1 fun z' h3 h4=>?_
   rw [hz,V.str_of h3,of_decide_eq_true h4,tA h2 fun v hv=>hs v (.tail _ hv)]
theorem mJ {h:Heap} {a:Addr} {es:List (Key×V)} {l:List V} (r:DictAt I5 w as h a es) (hm:cW es=some l):∃kvs,h.DictOf (strKind I5 w) a kvs/\bi as h es kvs:=by
 rcases r with r|⟨rows,D,T⟩
 ·exact r
 ·cases T with
  |nil=>exact lS (.inr ⟨[],D,.nil⟩) (x:=[]) rfl
  |cons _ _=>obtain ⟨b,l',h1,_⟩:=eT hm;exact aw h1
theorem mI {p:Addr×Addr} {n ep i:Nat} {all:List V} {o:Option V} (h0:aP I5 w C B fr as hh s) (hp:as[n]?=some p) (dn:j3 s.heap p.1 all.length ep) (hn:BJ n all i hh=some o):
  ∃kvs,s.heap.DictAt (strKind I5 w) p.1 kvs ep/\all=(kvs.map fun kv=>V.str kv.1.cps.toList)/\all[i]?=o:=by
 refine a8 hn fun es hx hn=>?_
 refine a8 hn fun l hm hn=>?_
 refine aJ hn fun hq hn=>?_
 obtain ⟨-,r⟩:=h0.R.dict hp hx
 obtain ⟨kvs,Dt,S⟩:=mJ r hm
 have el:=uf S hm
 have eall:l=all:=tA (eq_of_beq hq) fun v hv=>by
  rw [el] at hv
  obtain ⟨kv,_,e⟩:=List.mem_map.mp hv
  exact ⟨_,e.symm⟩
 obtain ⟨ep',Da⟩:=Dt.dictAt
 obtain ⟨o,es',g,x1,x2,x3,x4,x5⟩:=id Da
 obtain ⟨o2,es2,ep2,g2,c2,d2,l2,q2⟩:=dn
 rw [g] at g2;(injection g2 with g2;subst g2)
 rw [x2] at d2;cases d2
 have hsz:es'.size=kvs.length:=x4.length
 rw [q2 (by rw [<-eall,el,on,hsz])]
 exact ⟨kvs,Da,eall.symm.trans el,be hn⟩
theorem qE {I:Addr} {p:Addr×Addr} {n ep:Nat} {all:List V} {tg:Expr} (hA:A.handled=none):dz I5 w C B fr A I (·=I) tg (b5 false (.ref n) all) (fun i as h=>as[n]?=some p/\h.IsKeyIter I p.1 i all.length ep/\j3 h p.1 all.length ep) where
 own_:=fun i as h st a ha=>by
  obtain ⟨o,g,c,d⟩:=st.2.1
  exact ⟨o,ha▸g,cQ c d (by decide)⟩
 move:=fun i as h as' h' st hx k e=>by
  obtain ⟨r,hr⟩:=hx
  obtain ⟨hp,⟨o,g,c,d⟩,dn⟩:=st
  obtain ⟨hn,_⟩:=List.getElem?_eq_some_iff.mp hp
  exact ⟨by rw [hr,HK hn];exact hp,⟨o,k _ _ (.inl rfl) g,c,d⟩,dn.eps (e p.1 ⟨p,we hp,.inl rfl⟩)⟩
 item:=fun i as hh s v Kx E h0 st hn hQ=>by
  obtain ⟨hp,hit,dn⟩:=st
  obtain ⟨kvs,Da,eall,hn⟩:=mI h0 hp dn hn
  rw [eall,List.getElem?_map] at hn
  obtain ⟨⟨k,y⟩,hk,e⟩:=bQ hn
  have hlen:all.length=kvs.length:=by rw [eall,on]
  rw [hlen] at hit
  refine wpAny_pyNext_dict_item hit Da hk fun key h' hkey hit' hs=>⟨key,rfl,?_⟩
  obtain ⟨o',g',c',d'⟩:=id hit'
  have kp:∀b o,¬(b=I)->s.heap.get? b=some o->h'.get? b=some o:=fun b o ne e=>(hs.2 b ne).trans e
  have hDI:p.1≠I:=fun z=>by
   obtain ⟨o3,g3,c3,_⟩:=hit
   obtain ⟨o,es',g,x1,_⟩:=Da
   rw [z,g3] at g;(injection g with g;subst g)
   exact absurd (c3.symm.trans x1.1) (by decide)
  refine dI (s:={ s with heap:=h' }) g' c' (by decide) (hQ _ h' s.toks ⟨hp,by rw [hlen];exact hit',dn.eps (.keep fun o e=>kp p.1 o hDI e)⟩ kp ?_)
  obtain ⟨t,e2⟩:∃t,key=.str k t:=Value.isStrOf_shape hkey
  rw [<-e,e2]
  exact am.str (as:=as) (h:=h') k.cps.toList t
 done:=fun i as hh s Kd E h0 st hn hQ=>by
  obtain ⟨hp,hit,dn⟩:=st
  obtain ⟨kvs,Da,eall,hn⟩:=mI h0 hp dn hn
  have hlen:all.length=kvs.length:=by rw [eall,on]
  rw [hlen] at hit
  have hk:kvs[i]?=none:=List.getElem?_eq_none_iff.mpr (hlen▸List.getElem?_eq_none_iff.mp hn)
  exact wpAny_pyNext_dict_end hA hit Da hk fun h' hs=>⟨rfl,hQ h' s.toks fun b o ne e=>hs b o ne e⟩
 self:=fun i as s Q E st q=>wpAny_pyIter_keyiter st.2.1 q
theorem pW {z:List Nat} {t:Tok} {tg:Expr} {T:String} {K':Value->Shared->Prop} (h1:(T == "list" || T == "dict" || T == "frame" || (T == "tuple" || T == "range"))=false) (h2:iv T=true) (W:Walks I5 w A s.heap.objs.size [s.heap.objs.size] [s.heap.objs.size] (ah z).cps.size (SignAt (ah z)) (fun i h=>h.IsStrIter s.heap.objs.size T (ah z) t i))
  (h:∀I h' tk St,dz I5 w C B fr A I (·=I) tg (b5 false (.str z) (z.map fun c=>.str [c])) St->St 0 as h'->(∀b o,s.heap.get? b=some o->h'.get? b=some o)->s.heap.get? I=none->K' (.ref I) { s with heap:=h',toks:=tk }):
  K' (.ref s.heap.objs.size) { s with heap:=s.heap.push { cls:=.type T,data:=.fields #[.str (ah z) t,.int 0 0] } }:=by
 have TW:=gV (C:=C) (B:=B) (fr:=fr) (tg:=tg) (all:=z.map fun c=>.str [c]) (v:=.str z) (as₀:=as) (h₀:=s.heap) W (on _) rfl
  (fun i h' st=>by obtain ⟨o,g,c,d⟩:=st;exact ⟨o,g,cQ c d h1,T,c,h2⟩) (fun i h' st b hb ne=>absurd (List.mem_singleton.mp hb) ne)
  (fun i u y hu hs as' h' hx kp=>by
   obtain ⟨c,tk,e1,e2⟩:=hs
   rw [List.getElem?_map] at hu
   refine aW hu fun c' hz e=>?_
   have e3:c=c':=be ((show (ah z).cps[i]?=some c from e1).symm.trans (List.getElem?_toArray.trans hz))
   rw [<-e,e2,e3]
   exact am.str [c'] _)
 exact h _ _ s.toks _ TW ⟨⟨[],(th as).symm⟩,fun a o e Z=>ak _ a o e,Nat.zero_le _,⟨_,HU _ rfl,rfl,rfl⟩⟩ (ak _) b7
theorem hF {v:V} {x:Value} {all:List V} {tg:Expr} (FX:aU C P B K) (hA:A.handled=none) (h0:aP I5 w C B fr as hh s) (hv:am as s.heap v x) (hi:items v hh=some all) (K':Value->Shared->Prop) (E:Value->Shared->Prop)
  (h:∀I h' tk St,dz I5 w C B fr A I (·=I) tg (b5 (isL v hh) v all) St->St 0 as h'->(∀b o,s.heap.get? b=some o->h'.get? b=some o)->s.heap.get? I=none->K' (.ref I) { s with heap:=h',toks:=tk }):wpAny (model I5 w) A (pyIter x) K' E s:=by
 replace hv:=hv.inv
 induction v using V.casesOn with
 |str z=>
  obtain ⟨t,e⟩:=hv
  rw [<-be hi] at h
  rw [e]
  cases ha:(ah z).cps.all (· < 128)
  ·exact wpAny_pyIter_wide ha (pW (by decide) (by decide) (Walks.strWide hA _ _ t) h)
  ·exact wpAny_pyIter_ascii ha (pW (by decide) (by decide) (Walks.strAscii hA _ _ t) h)
 |tup zs=>
  obtain ⟨a,ys,e,tb,rb⟩:=hv
  rw [<-be hi] at h
  rw [e]
  refine wpAny_pyIter_tuple tb.to ?_
  have ha:a≠s.heap.objs.size:=by obtain ⟨o,_,g,_⟩:=id tb;exact HO (Heap.lt_size g)
  have TW:=gV (C:=C) (B:=B) (fr:=fr) (tg:=tg) (all:=zs) (v:=.tup zs) (as₀:=as) (h₀:=s.heap) (Walks.tuple (prog:=I5) (w:=w) hA s.heap.objs.size a ha ys.toArray) rb.length rfl
   (fun i h' st=>by obtain ⟨⟨o,g,c,d⟩,_⟩:=st;exact ⟨o,g,cQ c d (by decide),_,c,by decide⟩)
   (fun i h' st b hb ne=>by
    have e:b=a:=by simpa [ne] using hb
    obtain ⟨_,o,g,c,n',d'⟩:=st
    exact ⟨o,e▸g,.inl ⟨c,_,_,d',by obtain ⟨_,_,_,_,_,q⟩:=id tb;exact q⟩⟩)
   (fun i u y hu hs as' h' hx kp=>by
    obtain ⟨y',hy,r⟩:=rb.look hu
    have e1:y'=y:=be (hy.symm.trans (List.getElem?_toArray.symm.trans (show ys.toArray[i]?=some y from hs)))
    exact (am.mono' hx kp).1 (e1▸r))
  have TW':dz I5 w C B fr A s.heap.objs.size (·=s.heap.objs.size) tg (b5 (isL (.tup zs) hh) (.tup zs) zs) _:=TW
  exact h _ _ s.toks _ TW' ⟨⟨[],(th as).symm⟩,fun a o e Z=>ak _ a o e,Nat.zero_le _,⟨_,HU _ rfl,rfl,rfl⟩,tb.to.push _⟩ (ak _) b7
 |rng a b=>
  obtain ⟨q,e,t,u,v,hr⟩:=hv
  refine aJ hi fun hc hi=>?_
  rw [<-be hi] at h
  rw [e]
  refine wpAny_pyIter_range hr (jh hc) ?_
  rw [jX]
  have TW:=gV (C:=C) (B:=B) (fr:=fr) (tg:=tg) (all:=av a b) (v:=.rng a b) (as₀:=as) (h₀:=s.heap) (Walks.range (prog:=I5) (w:=w) hA s.heap.objs.size a 1 (b - a).toNat) bV rfl
   (fun i h' st=>⟨_,st,cQ rfl rfl (by decide),_,rfl,by decide⟩) (fun i h' st b hb ne=>absurd (List.mem_singleton.mp hb) ne)
   (fun i u y hu hs as' h' hx kp=>by
    obtain ⟨tk,e⟩:=hs
    obtain ⟨hi',_⟩:=List.getElem?_eq_some_iff.mp hu
    rw [jZ (by rwa [bV] at hi')] at hu
    rw [e,<-be hu,Int.mul_one]
    exact .int _ _)
  have TW':dz I5 w C B fr A s.heap.objs.size (·=s.heap.objs.size) tg (b5 (isL (.rng a b) hh) (.rng a b) (av a b)) _:=TW
  exact h _ _ s.toks _ TW' ⟨⟨[],(th as).symm⟩,fun a o e Z=>ak _ a o e,Nat.zero_le _,by
   have:=HU s.heap (o:={ cls:=.type "range_iterator",data:=.fields #[rawInt a,rawInt ((b - a).toNat:Int),rawInt 1] }) rfl
   show (Heap.push _ _).get? _=_
   rw [this]
   simp⟩ (ak _) b7
 |ref n=>
  obtain ⟨p,hp,e⟩:=hv
  refine a8 hi fun o ho hi=>?_
  rw [e]
  rcases o with xs|es|_
  ·obtain ⟨-,ys,k,g,r⟩:=h0.R.obj n _ p ho hp
   refine wpAny_pyIter_list (au g) ?_
   have e:isL (.ref n) hh=true:=by show (hh[n]?.bind O.list?).isSome=true;rw [ho];rfl
   rw [e] at h
   exact h _ _ s.toks _ (qC (all:=all) (tg:=tg) hA) ⟨hp,_,HU _ rfl,rfl,rfl⟩ (ak _) b7
  ·obtain ⟨-,r⟩:=h0.R.obj n _ p ho hp
   obtain ⟨kvs,Dt,S⟩:=mJ r hi
   have hlen:all.length=kvs.length:=by rw [uf S hi,on]
   obtain ⟨ep,Da⟩:=Dt.dictAt
   obtain ⟨o,es',g,x1,x2,x3,x4,x5⟩:=id Da
   have hsz:es'.size=kvs.length:=x4.length
   refine wpAny_pyIter_dict (h0.R.notSys FX hp) Da ?_
   have e:isL (.ref n) hh=false:=by show (hh[n]?.bind O.list?).isSome=false;rw [ho];rfl
   rw [e] at h
   exact h _ _ s.toks _ (qE (ep:=ep) (all:=all) (tg:=tg) hA) ⟨hp,⟨_,HU _ rfl,rfl,by rw [hlen];rfl⟩,⟨o,es',ep,ak _ _ _ g,x1.1,x2,by omega,fun Z=>rfl⟩⟩ (ak _) b7
  ·exact aw hi
 |_=>exact aw hi
end
end
section
open W PyProof.Rows SeqAt
section
variable {I5:Program} {w:World} {C:CV} {P:PT} {K:Frag} {B:Heap} {fr:List Env} {own:Addr->Prop} {A:Around} {Q:Value->Shared->Prop} {E:Value->Shared->Prop} {as as':AS} {s s':Shared} {hh hh':H} {env:Env} {ρ:Loc} {cf:V->List V->PM V} {n:Nat}
structure gy (C:CV) (sc sc':Scope) (x:Str):Prop where
 kind:sc'.kind=.function
 var:sc'.names.lookup x=some .local
 noCell:∀y∈sc'.names,y.2≠.cell
 only:∀y,sc'.names.lookup y=some .local->y=x\/C.id y=none
 names:∀y∈sc'.names,y.2=.local->sc'.names.lookup y.1=some .local
 free:∀y∈sc'.names,y.2=.free->(sc.names.lookup y.1=some .cell\/sc.names.lookup y.1=some .free)/\sc'.names.lookup y.1=some .free
theorem aT {α β:Type} [BEq α] [LawfulBEq α] {l:List (α×β)} {x:α} {y:β} (h:l.lookup x=some y):(x,y)∈l:=by
 induction l with
 |nil=>exact aw h
 |cons e r ih=>
  rw [so] at h
  rcases q:x==e.1 with _|_
  ·rw [q] at h;exact .tail _ (ih h)
  ·rw [q] at h;rw [eq_of_beq q,<-be h];exact .head _
theorem im {sc sc':Scope} {x:Str} (h:eh C sc sc' x=true):gy C sc sc' x:=by
 refine a7 h fun h h3=>?_
 refine a7 h fun h1 h2=>?_
 have h3:=List.all_eq_true.mp h3
 refine ⟨eq_of_beq h1,eq_of_beq h2,fun y hy=>?_,fun y hy=>?_,fun y hy hl=>?_,fun y hy hf=>?_⟩
 ·exact bne_iff_ne.mp (aV (aV (aV (h3 y hy)).1).1).1
 ·have q:=(aV (aV (aV (h3 _ (aT hy))).1).1).2
  rcases Bool.or_eq_true_iff.mp q with q|q
  ·rcases Bool.or_eq_true_iff.mp q with q|q
   ·exact absurd rfl (bne_iff_ne.mp q)
   ·exact .inl (eq_of_beq q)
  ·exact .inr (cG q)
 ·rcases Bool.or_eq_true_iff.mp (aV (aV (h3 y hy)).1).2 with q|q
  ·exact absurd hl (bne_iff_ne.mp q)
  ·exact eq_of_beq q
 ·rcases Bool.or_eq_true_iff.mp (aV (h3 y hy)).2 with q|q
  ·exact absurd hf (bne_iff_ne.mp q)
  ·refine a7 q fun q q2=>?_
   refine ⟨?_,eq_of_beq q2⟩
   rcases Bool.or_eq_true_iff.mp q with q|q
   ·exact .inl (eq_of_beq q)
   ·exact .inr (eq_of_beq q)
theorem k9 {α:Type} {f:Str->α->α} {y:Str}:∀{l:List (Str×α)},(l.map fun e=>(e.1,f e.1 e.2)).lookup y=(l.lookup y).map (f y)
 |[]=>rfl
 |(n,k)::r=>by
  rw [List.map_cons,so,so]
  by_cases hy:y=n
  ·rw [hy,beq_self_eq_true];rfl
  ·rw [dO hy];exact k9
noncomputable def Bg (sc:Scope) (y:Str) (k:NameKind):NameKind:=if (k==.free&&sc.kind==.function&&sc.names.lookup y==some .cell)=true then .cell else k
theorem fA (sc sc':Scope) (y:Str):(dm sc' sc).names.lookup y=(sc'.names.lookup y).map (Bg sc y):=by
 rw [<-k9]
 show (sc'.names.map fun e=>if (e.2==.free&&sc.kind==.function&&sc.names.lookup e.1==some .cell) then (e.1,NameKind.cell) else (e.1,e.2)).lookup y=_
 congr 2
 funext e
 unfold Bg
 split<;>rfl
theorem kn {sc':Scope} {env:Env} (h:∀y∈sc'.names,y.2=.free->∃c,env.cells.lookup y.1=some c):
  ∃cl,closureFor sc' env=pure cl/\(∀y,sc'.names.lookup y=some .free->cl.lookup y=env.cells.lookup y)/\∀y,(y,NameKind.free)∉sc'.names->cl.lookup y=none:=by
 unfold closureFor
 have key:∀(l:List (Str×NameKind)) (cs:List (Str×Addr)),(∀y∈l,y.2=.free->∃c,env.cells.lookup y.1=some c)->
   ∃cl,(forIn l cs (fun (x:Str×NameKind) r=>(do
    if (x.2==NameKind.free)=true then do let c <-cellOf env x.1;pure (ForInStep.yield ((x.1,c)::r)) else pure (ForInStep.yield r):Sem (ForInStep (List (Str×Addr)))) ):Sem (List (Str×Addr)))=pure cl/\
    (∀y,(y,NameKind.free)∈l->cl.lookup y=env.cells.lookup y)/\∀y,(y,NameKind.free)∉l->cl.lookup y=cs.lookup y:=by
  intro l
  induction l with
  |nil=>intro cs _;exact ⟨cs,rfl,(fun y hy=>nomatch hy),(fun y Z=>rfl)⟩
  |cons e r ih=>
   intro cs h
   obtain ⟨nm,k⟩:=e
   rw [List.forIn_cons]
   by_cases hk:k=.free
   ·subst hk
    obtain ⟨c,hc⟩:=h _ (.head _) rfl
    obtain ⟨cl,e1,e2,e3⟩:=ih ((nm,c)::cs) fun y hy=>h y (.tail _ hy)
    refine ⟨cl,?_,fun y hy=>?_,fun y hy=>?_⟩
    ·have:cellOf env nm=pure c:=by unfold cellOf;rw [hc]
     simp only [beq_self_eq_true,if_true,this,pure_bind]
     exact e1
    ·by_cases hm:(y,NameKind.free)∈r
     ·exact e2 y hm
     ·rw [e3 y hm]
      have:y=nm:=by
       rcases List.mem_cons.mp hy with h|h
       ·cases h;rfl
       ·exact absurd h hm
      rw [this,so,beq_self_eq_true,hc]
    ·have hn:(y,NameKind.free)∉r:=fun z=>hy (.tail _ z)
     have hne:y≠nm:=fun z=>hy (by rw [z];exact .head _)
     rw [e3 y hn,so]
     have:(y==nm)=false:=by simpa using hne
     rw [this]
   ·obtain ⟨cl,e1,e2,e3⟩:=ih cs fun y hy=>h y (.tail _ hy)
    refine ⟨cl,?_,fun y hy=>?_,fun y hy=>?_⟩
    ·have:(k==NameKind.free)=false:=by simpa using hk
     simp only [this,Bool.false_eq_true,if_false,pure_bind]
     exact e1
    ·rcases List.mem_cons.mp hy with q|q
     ·cases q;exact absurd rfl hk
     ·exact e2 y q
    ·exact e3 y fun z=>hy (.tail _ z)
 obtain ⟨cl,e1,e2,e3⟩:=key sc'.names [] h
 refine ⟨cl,?_,fun y hy=>e2 y (aT hy),fun y hy=>e3 y hy⟩
 exact (congrArg (fun m=>m >>= fun cs=>pure cs) e1).trans (pure_bind _ _)
variable (env ρ) in
theorem aF.comp {sc':Scope} {x:Str} {i:Nat} {cl:List (Str×Addr)} {L:Addr} {m:Str->Option Value} {v:V} {z:Value} (N:aF C env ρ as s.heap) (S:gy C env.scope sc' x) (hx:C.id x=some i)
  (hcl:∀y,sc'.names.lookup y=some .free->cl.lookup y=env.cells.lookup y) (hcl2:∀y,(y,NameKind.free)∉sc'.names->cl.lookup y=none) (off:¬foot as L) (hns:s.heap.Ns L m) (hm:m x=some z) (rv:am as s.heap v z):
  aF C (compEnvC sc' cl L env) ((i,v)::ρ) as s.heap:=by
 have kof:∀y,(compEnvC sc' cl L env).kindOf y=(sc'.names.lookup y).map (Bg env.scope y):=fun y=>fA env.scope sc' y
 have rel:∀{y k k'},Bg env.scope y k=k'->(k'=k/\True)\/(k=.free/\k'=.cell/\env.scope.names.lookup y=some .cell):=fun {y k k'} h=>by
  unfold Bg at h
  by_cases c:(k==.free&&env.scope.kind==.function&&env.scope.names.lookup y==some .cell)=true
  ·rw [if_pos c] at h
   refine a7 c fun c1 c2=>?_
   exact .inr ⟨eq_of_beq (aV c1).1,h.symm,eq_of_beq c2⟩
  ·rw [if_neg c] at h;exact .inl ⟨h.symm,trivial⟩
 have loc:∀y,(compEnvC sc' cl L env).kindOf y=some .local->sc'.names.lookup y=some .local:=fun y h=>by
  rw [kof] at h
  refine aW h fun k hk e=>?_
  rcases rel e with ⟨e,_⟩|⟨_,e,_⟩
  ·rw [hk,<-e]
  ·injection e
 have fre:∀y,(compEnvC sc' cl L env).kindOf y=some .cell\/(compEnvC sc' cl L env).kindOf y=some .free->sc'.names.lookup y=some .free:=fun y h=>by
  rw [kof] at h
  rcases h with h|h
  ·refine aW h fun k hk e=>?_
   rcases rel e with ⟨e,_⟩|⟨e,_,_⟩
   ·exact absurd e.symm (S.noCell _ (aT hk))
   ·rw [hk,e]
  ·refine aW h fun k hk e=>?_
   rcases rel e with ⟨e,_⟩|⟨e,_,_⟩
   ·rw [hk,<-e]
   ·rw [hk,e]
 have out:∀y,sc'.names.lookup y=some .free->env.kindOf y=some .cell\/env.kindOf y=some .free:=fun y h=>(S.free _ (aT h) rfl).1
 have nx:∀y,sc'.names.lookup y=some .free->y≠x:=fun y h e=>by rw [e,S.var] at h;cases h
 refine ⟨S.kind,N.glob,N.blt,off,⟨m,hns,fun y j u h1 h2 h3=>?_⟩,fun y j u h1 h2 h3=>?_,fun y h=>?_,fun y u c h1 h2 h3=>?_⟩
 ·rcases S.only y (loc y h2) with rfl|h4
  ·have:j=i:=be (h1.symm.trans hx)
   rw [this,so,beq_self_eq_true] at h3
   rw [<-be h3]
   exact ⟨z,hm,rv⟩
  ·rw [h4] at h1;injection h1
 ·have hf:=fre y h2
  have hne:j≠i:=fun e=>nx y hf (CV.id_inj (e▸h1) hx)
  rw [so] at h3
  rw [dO hne] at h3
  obtain ⟨c,o,z',e,r⟩:=N.cell y j u h1 (out y hf) h3
  exact ⟨c,o,z',by show cl.lookup y=_;rw [hcl y hf];exact e,r⟩
 ·have hf:=fre y h
  obtain ⟨c,o,z',e,r⟩:=N.cellAt y (out y hf)
  exact ⟨c,o,z',by show cl.lookup y=_;rw [hcl y hf];exact e,r⟩
 ·have hf:=fre y (.inl h1)
  have hcell:env.kindOf y=some .cell:=by
   rw [kof,hf] at h1
   rcases rel (be h1) with ⟨e,_⟩|⟨_,_,e⟩
   ·injection e
   ·exact e
  have h2':env.cells.lookup y=some c:=by rw [<-hcl y hf];exact h2
  by_cases hu:sc'.names.lookup u=some .free
  ·exact N.apart y u c hcell h2' (by rw [<-hcl u hu];exact h3)
  ·have:(u,NameKind.free)∉sc'.names:=fun hm'=>hu (S.free _ hm' rfl).2
   rw [show (compEnvC sc' cl L env).cells.lookup u=cl.lookup u from rfl,hcl2 u this] at h3
   injection h3
def Ch3 (I L D:Addr) (a:Addr):Prop:=a=I\/a=L\/a=D
variable (I5 w C B fr) in
structure bg (I8:AS) (s₁:Shared) (I L D:Addr) (St:Nat->AS->Heap->Prop) (i:Nat) (acc:List V) (as:AS) (hh:H) (s:Shared):Prop where
 post:aI I5 w C B fr (Ch3 I L D) I8 s₁ as hh s
 st:St i as s.heap
 res:∃ys k,s.heap.get? D=some { cls:=.type "list",data:=.seq ys k }/\aj as s.heap acc ys.toList
 ns:∃m,s.heap.Ns L m
 off:¬foot as L/\¬foot as D
theorem lF.notNew {h:Heap} (F:lF B fr h) {a:Addr} (e:h.get? a=none):¬bc fr a:=by
 rintro ⟨env,he,hf⟩
 obtain ⟨L,o,hL,g,_⟩:=F.2 env he
 rw [hf] at hL;(injection hL with hL;subst hL)
 rw [e] at g;injection g
structure fy (s₁:Shared) (I L D:Addr):Prop where
 i:s₁.heap.get? I=none
 l:s₁.heap.get? L=none
 d:s₁.heap.get? D=none
 il:I≠L
 id:I≠D
 ld:L≠D
theorem bg.owned {I8:AS} {I9:H} {s₁:Shared} {I L D:Addr} {St:Nat->AS->Heap->Prop} {tg:Expr} {nx:Nat->H->Option (Option V)} {i:Nat} {acc:List V} (h1:aP I5 w C B fr I8 I9 s₁) (N3:fy s₁ I L D)
  (T:dz I5 w C B fr A I (·=I) tg nx St) (V:bg I5 w C B fr I8 s₁ I L D St i acc as hh s):Own B fr (Ch3 I L D) as s.heap:=by
 have nb:∀{a},s₁.heap.get? a=none->B.get? a=none:=fun {a} e=>by
  rcases z:B.get? a with _|o
  ·rfl
  ·have:=h1.R.base _ _ z;rw [e] at this;injection this
 obtain ⟨oI,gI,lI⟩:=T.own_ i as _ V.st I rfl
 obtain ⟨ys,k,gD,_⟩:=V.res
 obtain ⟨m,oL,es,ep,gL,dL,_⟩:=V.ns
 refine ⟨fun a c=>?_,fun a c=>?_,fun a c=>?_,fun a c=>?_⟩
 ·rcases c with rfl|rfl|rfl
  ·exact nb N3.i
  ·exact nb N3.l
  ·exact nb N3.d
 ·rcases c with rfl|rfl|rfl
  ·exact V.post.rel.off gI lI.1 lI.2.1 lI.2.2.1
  ·exact V.off.1
  ·exact V.off.2
 ·rcases c with rfl|rfl|rfl
  ·exact ⟨_,gI,lI.2.2.2.2⟩
  ·refine ⟨_,gL,?_⟩
   rintro (⟨_,_,_,d,_⟩|⟨_,_,d⟩)
   ·exact nomatch dL.symm.trans d
   ·exact nomatch dL.symm.trans d
  ·exact ⟨_,gD,oP (T := "list") rfl (by decide)⟩
 ·rcases c with rfl|rfl|rfl
  ·exact h1.F.notNew N3.i
  ·exact h1.F.notNew N3.l
  ·exact h1.F.notNew N3.d
theorem bg.inner {I8:AS} {I9:H} {s₁:Shared} {I L D:Addr} {St:Nat->AS->Heap->Prop} {tg:Expr} {nx:Nat->H->Option (Option V)} {i:Nat} {acc:List V} (h1:aP I5 w C B fr I8 I9 s₁) (N3:fy s₁ I L D)
  (T:dz I5 w C B fr A I (·=I) tg nx St) (V:bg I5 w C B fr I8 s₁ I L D St i acc as hh s) (p:aI I5 w C B fr ay as s as' hh' s'):bg I5 w C B fr I8 s₁ I L D St i acc as' hh' s':=by
 have O:=V.owned h1 N3 T
 have keepCh:∀a o,Ch3 I L D a->s.heap.get? a=some o->hard o->s'.heap.get? a=some o:=fun a o c e hh=>p.step.keepN e (O.off a c) id hh
 have keepS:∀a o,solid o->s.heap.get? a=some o->s'.heap.get? a=some o:=fun a o sd e=>p.step.keepN e (V.post.rel.offSolid e sd) id sd.hard
 obtain ⟨ys,k,gD,r⟩:=V.res
 obtain ⟨m,oL,es,ep,gL,dL,rL⟩:=V.ns
 obtain ⟨slL,gL'⟩:=p.step.keepU gL (O.off _ (.inr (.inl rfl))) id fun vs q=>by rw [dL] at q;injection q
 have pst:aI I5 w C B fr (Ch3 I L D) as s as' hh' s':=⟨p.step.lift fun a c=>by obtain ⟨o,e,_⟩:=O.at_ a c;rw [e];rfl,p.rel,p.frs,p.gens,p.os⟩
 refine ⟨V.post.trans pst,T.move i as _ as' _ V.st p.step.pre (fun a o c e=>?_) (fun a f=>p.step.eps a id),⟨ys,k,keepCh _ _ (.inr (.inr rfl)) gD (gQ (T := "list") rfl (by decide)),r.post V.post.rel p⟩,⟨m,_,es,ep,gL',dL,rL⟩,
  p.step.offFoot (by rw [gL];rfl) V.off.1,p.step.offFoot (by rw [gD];rfl) V.off.2⟩
 rcases c with rfl|c
 ·obtain ⟨o',g',lo⟩:=T.own_ _ _ _ V.st a rfl
  rw [e] at g';(injection g' with g';subst g')
  exact keepCh _ _ (.inl rfl) e lo.2.2.2.1
 ·exact keepS _ _ c e
theorem bg.names {I8:AS} {I9:H} {s₁:Shared} {I L D:Addr} {St:Nat->AS->Heap->Prop} {i:Nat} {acc:List V} (h1:aP I5 w C B fr I8 I9 s₁) (N3:fy s₁ I L D) (N:aF C env ρ I8 s₁.heap)
  (V:bg I5 w C B fr I8 s₁ I L D St i acc as hh s):aF C env ρ as s.heap:=by
 have p:dh ay I8 s₁.heap as s.heap:=by
  refine V.post.step.drop fun a c=>?_
  rcases c with rfl|rfl|rfl
  ·exact N3.i
  ·exact N3.l
  ·exact N3.d
 exact N.post h1.R (⟨p,V.post.rel,V.post.frs,V.post.gens,V.post.os⟩:aI I5 w C B fr ay I8 s₁ as hh s)
theorem bg.turn {I8:AS} {I9:H} {s₁:Shared} {I L D:Addr} {St:Nat->AS->Heap->Prop} {tg:Expr} {nx:Nat->H->Option (Option V)} {i i':Nat} {acc acc':List V} {h':Heap} (tk:Nat) (h1:aP I5 w C B fr I8 I9 s₁) (N3:fy s₁ I L D)
  (T:dz I5 w C B fr A I (·=I) tg nx St) (V:bg I5 w C B fr I8 s₁ I L D St i acc as hh s) (k:∀b o,¬Ch3 I L D b->s.heap.get? b=some o->h'.get? b=some o) (st:St i' as h')
  (res:∃ys k,h'.get? D=some { cls:=.type "list",data:=.seq ys k }/\aj as h' acc' ys.toList) (ns:∃m,h'.Ns L m):bg I5 w C B fr I8 s₁ I L D St i' acc' as hh { s with heap:=h',toks:=tk }:=by
 have O:=V.owned h1 N3 T
 have p:aI I5 w C B fr (fun a=>Ch3 I L D a\/Ch3 I L D a) as s as hh { s with heap:=h',toks:=tk }:=aI.but (s':={ s with heap:=h',toks:=tk }) (own:=Ch3 I L D) ⟨V.post.rel,V.post.frs⟩ O k rfl rfl
 have p':aI I5 w C B fr (Ch3 I L D) as s as hh { s with heap:=h',toks:=tk }:=by
  have e:(fun a=>Ch3 I L D a\/Ch3 I L D a)=Ch3 I L D:=by funext a;simp
  rwa [e] at p
 exact ⟨V.post.trans p',st,res,ns,V.off⟩
end
end
section
open W PyProof.Rows SeqAt
section
variable {I5:Program} {w:World} {C:CV} {P:PT} {K:Frag} {B:Heap} {fr:List Env} {own:Addr->Prop} {A:Around} {Q:Value->Shared->Prop} {E:Value->Shared->Prop} {as as':AS} {s s':Shared} {hh hh':H} {env:Env} {ρ:Loc} {cf:V->List V->PM V} {n:Nat}
noncomputable def dG (P:PT) (cf:V->List V->PM V) (c e:PE) (x:Nat) (ρ:Loc) (v:V) (h:H):R (Option V):=bB (evT P cf c ((x,v)::ρ) h) (fun h=>(ev P cf e ((x,v)::ρ) h).bd fun y h=>.ok (some y) h) (fun h=>.ok none h)
variable (I5 w C B fr) in
structure j4 (I8:AS) (s₁:Shared) (I L D:Addr) (acc:List V) (as:AS) (hh:H) (s:Shared):Prop where
 post:aI I5 w C B fr (Ch3 I L D) I8 s₁ as hh s
 res:∃ys k,s.heap.get? D=some { cls:=.type "list",data:=.seq ys k }/\aj as s.heap acc ys.toList
 ns:∃m,s.heap.Ns L m
 off:¬foot as L/\¬foot as D
variable (I5 w C P B fr A cf) in
def iZ (cenv:Env) (ρ':Loc) (ifs:List Expr) (c:PE):Prop:=(ifs=[]/\c=.bool true)\/∃y,ifs=[y]/\cg I5 w C P B fr A cenv ρ' cf y c
theorem rM {ifs:List Expr} {c:PE} {cenv:Env} {ρ':Loc} {b:Bool} {Qb:Bool->Shared->Prop} (hT:iZ I5 w C P B fr A cf cenv ρ' ifs c) (h0:aP I5 w C B fr as hh s) (N:aF C cenv ρ' as s.heap)
  (he:evT P cf c ρ' hh=.ok b hh') (h:∀as' s',aI I5 w C B fr ay as s as' hh' s'->Qb b s'):
  wpAny (model I5 w) A (forIn ifs true fun c r=>if r=true then do let ok <-isTrue c cenv (eval c cenv);pure (ForInStep.yield ok) else pure (ForInStep.yield r)) Qb E s:=by
 rcases hT with ⟨h1,h2⟩|⟨y,h1,hT⟩
 ·rw [h2] at he
  rw [h1,List.forIn_nil]
  cases he
  exact wpAny_pure (h as s ⟨dh.refl ..,h0.R,h0.F,rfl,rfl⟩)
 ·rw [h1]
  refine wpAny_tests_one (hT as hh s h0 N _ _ ?_)
  rw [he]
  exact fun as' s' x p rv=>(show b=x from rv)▸h as' s' p
theorem dz.named {x:Str} {px:Pos} {I:Addr} {Ch:Addr->Prop} {nx:Nat->H->Option (Option V)} {St:Nat->AS->Heap->Prop} {i:Nat} {v:V} {α:Type} {f:Value->Sem α} {Qa:α->Shared->Prop} {Ko:Option Value->Shared->Prop} (T:dz I5 w C B fr A I Ch (.Name x px) nx St)
  (h0:aP I5 w C B fr as hh s) (st:St i as s.heap) (hn:nx i hh=some (some v)) (hK:∀xv s₁,wpAny (model I5 w) A (f xv) Qa E s₁->Ko (some xv) s₁)
  (h:∀xv h' tk,St (i+1) as h'->(∀b o,¬Ch b->s.heap.get? b=some o->h'.get? b=some o)->am as h' v xv->wpAny (model I5 w) A (f xv) Qa E { s with heap:=h',toks:=tk }):
  wpAny (model I5 w) A (pyNext (.ref I)) Ko E s:=by
 refine wpAny_mono (T.item i as hh s v (fun xv I6=>wpAny (model I5 w) A (f xv) Qa E I6) E h0 st hn h) (fun r s' q=>?_) fun Z Z e=>e
 obtain ⟨xv,rfl,q⟩:=q
 exact hK xv s' (wpAny_bind (m:=letOwnedTupleGo (.Name x px) (.ref I) xv) q)
theorem xS {h h':Heap} (k:∀a o,h.get? a=some o->solid o->h'.get? a=some o):(∀{v x},am as h v x->am as h' v x)/\∀{v x},aj as h v x->aj as h' v x:=
 am.mono' (as':=as) ⟨[],(th as).symm⟩ k
theorem Own.solid {Ch:Addr->Prop} {h h':Heap} {X:Addr} (O:Own B fr Ch as h) (hX:Ch X) (k:∀b o,b≠X->h.get? b=some o->h'.get? b=some o) (a:Addr) (o:Obj) (e:h.get? a=some o) (sd:Mine.solid o):h'.get? a=some o:=
 k a o (fun z=>(O.at_ a (z▸hX)).elim fun o' q=>q.2 (be (e.symm.trans q.1)▸sd)) e
section
variable {x:Str} {px:Pos} {I8:AS} {I9:H} {s₁:Shared} {I L D:Addr} {St:Nat->AS->Heap->Prop} {nx:Nat->H->Option (Option V)} {i:Nat} {acc:List V} {h':Heap} {tk:Nat} (h1:aP I5 w C B fr I8 I9 s₁) (N3:fy s₁ I L D) (T:dz I5 w C B fr A I (·=I) (.Name x px) nx St)
 (W:bg I5 w C B fr I8 s₁ I L D St i acc as hh s)
include h1 N3 T W
theorem bg.took (k:∀b o,b≠I->s.heap.get? b=some o->h'.get? b=some o) (st:St (i+1) as h'):bg I5 w C B fr I8 s₁ I L D St (i+1) acc as hh { s with heap:=h',toks:=tk }:=by
 have m:=xS (as:=as) ((W.owned h1 N3 T).solid (.inl rfl) k)
 obtain ⟨ys,kk,gD,r⟩:=W.res
 obtain ⟨_,oL,es,ep,gL,rL⟩:=W.ns
 exact W.turn tk h1 N3 T (fun b o ne e=>k b o (fun z=>ne (.inl z)) e) st ⟨ys,kk,k _ _ (Ne.symm N3.id) gD,m.2 r⟩ ⟨_,oL,es,ep,k _ _ (Ne.symm N3.il) gL,rL⟩
theorem bg.over (k:∀b o,b≠I->s.heap.get? b=some o->h'.get? b=some o):j4 I5 w C B fr I8 s₁ I L D acc as hh { s with heap:=h',toks:=tk }:=by
 have O:=W.owned h1 N3 T
 have m:=xS (as:=as) (O.solid (.inl rfl) k)
 have p:aI I5 w C B fr (fun a=>Ch3 I L D a\/Ch3 I L D a) as s as hh { s with heap:=h',toks:=tk }:=aI.but (s':={ s with heap:=h',toks:=tk }) (own:=Ch3 I L D) ⟨W.post.rel,W.post.frs⟩ O (fun b o ne e=>k b o (fun z=>ne (.inl z)) e) rfl rfl
 obtain ⟨ys,kk,gD,r⟩:=W.res
 obtain ⟨_,oL,es,ep,gL,rL⟩:=W.ns
 exact ⟨W.post.trans ((funext fun Z=>or_self _:(fun a=>Ch3 I L D a\/Ch3 I L D a)=Ch3 I L D)▸p),⟨ys,kk,k _ _ (Ne.symm N3.id) gD,m.2 r⟩,⟨_,oL,es,ep,k _ _ (Ne.symm N3.il) gL,rL⟩,W.off⟩
theorem bg.put {m:Str->Option Value} (hn:h'.Ns L m) (hs:Heap.SameBut L s.heap h'):bg I5 w C B fr I8 s₁ I L D St i acc as hh { s with heap:=h',toks:=tk }/\∀{v x},am as s.heap v x->am as h' v x:=by
 have k:∀b o,b≠L->s.heap.get? b=some o->h'.get? b=some o:=fun b o ne e=>(hs.2 b ne).trans e
 have kS:=(W.owned h1 N3 T).solid (.inr (.inl rfl)) k
 have m:=xS (as:=as) kS
 obtain ⟨ys,kk,gD,r⟩:=W.res
 exact ⟨W.turn tk h1 N3 T (fun b o ne e=>k b o (fun z=>ne (.inr (.inl z))) e) (T.move _ _ _ _ _ W.st ⟨[],(th as).symm⟩ (fun a o c e=>c.elim (fun c=>k _ _ (c▸N3.il) e) (kS a o e)) fun a f=>.keep fun o e=>k a o (fun z=>W.off.1 (z▸f)) e)
  ⟨ys,kk,k _ _ (Ne.symm N3.ld) gD,m.2 r⟩ ⟨_,hn⟩,m.1⟩
theorem bg.add {y:V} {z:Value} {ys:Array Value} {c c':Nat} (gD:s.heap.get? D=some { cls:=.type "list",data:=.seq ys c }) (r:aj as s.heap acc ys.toList) (ry:am as s.heap y z) (hs:Heap.SameBut D s.heap h')
  (g:h'.get? D=some { cls:=.type "list",data:=.seq (ys.push z) c' }):bg I5 w C B fr I8 s₁ I L D St i (acc++[y]) as hh { s with heap:=h',toks:=s.toks }:=by
 have k:∀b o,b≠D->s.heap.get? b=some o->h'.get? b=some o:=fun b o ne e=>(hs.2 b ne).trans e
 have kS:=(W.owned h1 N3 T).solid (.inr (.inr rfl)) k
 have m:=xS (as:=as) kS
 obtain ⟨_,oL,es,ep,gL,rL⟩:=W.ns
 exact W.turn (acc':=acc++[y]) s.toks h1 N3 T (fun b o ne e=>k b o (fun z=>ne (.inr (.inr z))) e) (T.move _ _ _ _ _ W.st ⟨[],(th as).symm⟩ (fun a o c e=>c.elim (fun c=>k _ _ (c▸N3.id) e) (kS a o e)) fun a f=>.keep fun o e=>k a o (fun z=>W.off.2 (z▸f)) e)
  ⟨_,_,g,by rw [Array.toList_push];exact (m.2 r).append (.cons (m.1 ry) .nil)⟩ ⟨_,oL,es,ep,k _ _ N3.ld gL,rL⟩
end
theorem te {α β:Type} {m:R α} {f:α->H->R β} {y:β} {h:H} {G:Prop} (e:m.bd f=.ok y h) (k:∀x h1,m=.ok x h1->f x h1=.ok y h->G):G:=by
 rcases m with ⟨x,h1⟩|⟨c,h⟩|_
 ·exact k x h1 rfl e
 ·exact nomatch e
 ·exact nomatch e
theorem wW {α β:Type} {o:Option α} {f:α->R β} {y:β} {h:H} {G:Prop} (e:bq o f=.ok y h) (k:∀x,o=some x->f x=.ok y h->G):G:=by
 rcases o with _|x
 ·exact nomatch e
 ·exact k x rfl e
theorem vI {elt iter:Expr} {ifs:List Expr} {x:Str} {px pos:Pos} {sc':Scope} {cl:List (Str×Addr)} {ix:Nat} {cP pe:PE} {I8:AS} {I9:H} {s₁:Shared} {I L D:Addr} {St:Nat->AS->Heap->Prop} {nx:Nat->H->Option (Option V)} {ysV:List V} {hhE:H}
  {RR:Result->Shared->Prop} (h1:aP I5 w C B fr I8 I9 s₁) (N3:fy s₁ I L D) (N:aF C env ρ I8 s₁.heap) (S:gy C env.scope sc' x) (hx:C.id x=some ix)
  (hcl:∀y,sc'.names.lookup y=some .free->cl.lookup y=env.cells.lookup y) (hcl2:∀y,(y,NameKind.free)∉sc'.names->cl.lookup y=none)
  (T:dz I5 w C B fr A I (·=I) (.Name x px) nx St)
  (hE:∀v,bh I5 w C P B fr A (compEnvC sc' cl L env) ((ix,v)::ρ) cf elt pe) (hT:∀v,iZ I5 w C P B fr A cf (compEnvC sc' cl L env) ((ix,v)::ρ) ifs cP)
  (hR:∀as s,j4 I5 w C B fr I8 s₁ I L D ysV as hhE s->RR (.ok .next) s):
  ∀n i acc as hh s,bg I5 w C B fr I8 s₁ I L D St i acc as hh s->bN nx (dG P cf cP pe ix ρ) n i acc hh=.ok ysV hhE->
   acc.length+n<=100001->
   codeAny (model I5 w) A (.compLoop (.ListComp elt [⟨.Name x px,iter,ifs,0⟩] sc' pos) 0 (.ref I) (.ref D) (compEnvC sc' cl L env)) RR s:=by
 intro n i acc as hh s V hgo hlen
 refine codeAny_compLoop_tests (fun n s=>∃i acc as hh,bg I5 w C B fr I8 s₁ I L D St i acc as hh s/\bN nx (dG P cf cP pe ix ρ) n i acc hh=.ok ysV hhE/\acc.length+n<=100001) ?_ n ⟨i,acc,as,hh,V,hgo,hlen⟩
 clear V hgo hlen n i acc as hh s
 intro n s h
 refine x4_3 h fun i acc as hh V hgo hlen=>?_
 clear h
 have hk:(compEnvC sc' cl L env).kindOf x=some .local:=by
  show (dm sc' env.scope).names.lookup x=some .local
  rw [fA,S.var]
  rfl
 rcases n with _|n
 ·exact nomatch hgo
 ·refine xU fun K0 hK=>?_
  refine wW (show bq (nx i hh) _=R.ok ysV hhE from hgo) fun r hn hgo=>?_
  rcases r with _|v
  ·cases (show R.ok acc hh=R.ok ysV hhE from hgo)
   exact wpAny_mono (T.done i as _ s (fun s'=>RR (.ok .next) s') _ ⟨V.post.rel,V.post.frs⟩ V.st hn fun h' tk k=>hR _ _ (V.over h1 N3 T k)) (fun r s' q=>hK _ _ (q.1▸q.2)) fun Z Z e=>e
  ·refine T.named (f:=assign (.Name x px) (compEnvC sc' cl L env)) ⟨V.post.rel,V.post.frs⟩ V.st hn (fun xv s₁ q=>hK (some xv) s₁ q) fun xv h' tk st k rv=>?_
   clear hK
   refine xU fun K1 hK=>?_
   have V1:=V.took (tk:=tk) h1 N3 T k st
   obtain ⟨m,hns⟩:=V1.ns
   refine wpAny_assign_Name (wpAny_storeName_local hk hns (fun Ic IY IO=>hK _ _ ?_) (by simp [compEnvC,relabel,S.kind]))
   clear hK
   refine xU fun K2 hK=>?_
   obtain ⟨V2,mv⟩:=V1.put (tk:=tk+1) h1 N3 T IY IO
   have N2:aF C (compEnvC sc' cl L env) ((ix,v)::ρ) as Ic:=aF.comp env ρ (s:={ s with heap:=Ic,toks:=tk+1 }) (V2.names h1 N3 N) S hx hcl hcl2 V2.off.1 IY (if_pos rfl) (mv rv)
   refine te (show (dG P cf cP pe ix ρ v hh).bd (fun x h=>bN nx (dG P cf cP pe ix ρ) n (i+1) (xT acc x) h)=R.ok ysV hhE from hgo) fun o hh3 ho hgo=>?_
   refine te (show (evT P cf cP ((ix,v)::ρ) hh).bd _=_ from ho) fun b hh2 ht ho=>?_
   refine rM (cenv:=compEnvC sc' cl L env) (hT v) ⟨V2.post.rel,V2.post.frs⟩ N2 ht fun as4 s4 p4=>?_
   have V4:=V2.inner h1 N3 T p4
   rcases b with _|_
   ·cases (show R.ok none hh2=R.ok o hh3 from ho)
    exact hK false s4 ⟨n,HS n,i+1,acc,as4,_,V4,hgo,Nat.le_of_succ_le hlen⟩
   ·refine hK true s4 ?_
    clear hK
    rw [if_pos rfl]
    refine xU fun K3 hK=>?_
    refine te (show (ev P cf pe ((ix,v)::ρ) hh2).bd (fun y h=>R.ok (some y) h)=R.ok o hh3 from ho) fun y hh5 he ho=>?_
    cases ho
    refine hE v as4 hh2 s4 p4.here (N2.post V2.post.rel p4) _ _ ?_
    rw [he]
    intro as5 s5 yv p5 ry
    have V5:=V4.inner h1 N3 T p5
    obtain ⟨ys,kk,gD,r⟩:=V5.res
    have hl:acc.length=ys.size:=r.length
    exact hK yv s5 (append_at gD (fun h6 hs6 gD6=>⟨n,HS n,i+1,acc++[y],as5,_,V5.add h1 N3 T gD r ry hs6 gD6,hgo,by rw [List.length_append,List.length_singleton];exact (Nat.add_right_comm ..)▸hlen⟩) (aR (hl▸Nat.le_of_succ_le_succ (HN (Nat.add_le_add_left (Nat.succ_le_succ (Nat.zero_le n)) _) hlen))))
theorem km {elt iter:Expr} {ifs:List Expr} {x:Str} {px pos:Pos} {sc':Scope} {cl:List (Str×Addr)} {ix:Nat} {cP pe:PE} {h':Heap} {tk:Nat} {I:Addr} {St:Nat->AS->Heap->Prop} {nx:Nat->H->Option (Option V)} {ysV:List V} {hhE:H}
  {RR:Value->Addr->Result->Shared->Prop} (h1:aP I5 w C B fr as hh s) (N:aF C env ρ as s.heap) (S:gy C env.scope sc' x) (hx:C.id x=some ix)
  (hcl:∀y,sc'.names.lookup y=some .free->cl.lookup y=env.cells.lookup y) (hcl2:∀y,(y,NameKind.free)∉sc'.names->cl.lookup y=none)
  (T:dz I5 w C B fr A I (·=I) (.Name x px) nx St) (st:St 0 as h') (k:∀b o,s.heap.get? b=some o->h'.get? b=some o) (hI:s.heap.get? I=none)
  (hE:∀L v,bh I5 w C P B fr A (compEnvC sc' cl L env) ((ix,v)::ρ) cf elt pe) (hT:∀L v,iZ I5 w C P B fr A cf (compEnvC sc' cl L env) ((ix,v)::ρ) ifs cP)
  (hgo:bN nx (dG P cf cP pe ix ρ) 100000 0 [] hh=.ok ysV hhE)
  (hR:∀D L as' s',fy s I L D->j4 I5 w C B fr as s I L D ysV as' hhE s'->RR (.ref D) L (.ok .next) s'):
  wpAny (model I5 w) A (PySem.newList []) (fun acc s₃=>wpAny (model I5 w) A (newFunctionEnv sc' env.globals cl [] env.qual none .none (some env)) (fun cenv IP=>
   codeAny (model I5 w) A (.compStart (.ListComp elt [⟨.Name x px,iter,ifs,0⟩] sc' pos) 0 (.ref I) acc { cenv with scope:=relabel sc' env }) (RR acc cenv.locals) IP) E s₃) E { s with heap:=h',toks:=tk }:=by
 refine wpAny_newObj_type (wpAny_newFunctionEnv S.noCell (by intro y hy;simp at hy) (fun Ie IQ IJ=>?_) S.kind)
 dsimp only at IQ IJ⊢
 generalize hH2:h'.push { cls:=.type "list",dict:=none,data:=.seq ([]:List Value).toArray }=H2 at IQ IJ⊢
 have sz:H2.objs.size=h'.objs.size+1:=by rw [<-hH2,Heap.size_push]
 have fresh:∀a,h'.objs.size<=a->s.heap.get? a=none:=fun a ha=>by
  rcases e:s.heap.get? a with _|o
  ·rfl
  ·exact absurd (Heap.lt_size (k a o e)) (Nat.not_lt.mpr ha)
 have Ilt:I < h'.objs.size:=by
  obtain ⟨o,g,_⟩:=T.own_ 0 as h' st I rfl
  exact Heap.lt_size g
 have c1:I < H2.objs.size:=by rw [sz];exact Nat.lt_succ_of_lt Ilt
 have c2:h'.objs.size < H2.objs.size:=by rw [sz];exact HS _
 have N3:fy s I H2.objs.size h'.objs.size:=⟨hI,fresh _ (Nat.le_of_lt c2),fresh _ (HM _),HO c1,HO Ilt,(HO c2).symm⟩
 have kk:∀b o,h'.get? b=some o->Ie.get? b=some o:=fun b o e=>IJ.extBut b o (HO (Nat.lt_trans (Heap.lt_size e) c2)) (HV _ (hH2▸HV _ e))
 have gD:Ie.get? h'.objs.size=some { cls:=.type "list",data:=.seq #[] }:=IJ.extBut _ _ (HO c2) (HV _ (hH2▸HU _ rfl))
 have off:∀{a},s.heap.get? a=none->¬foot as a:=fun {a} e f=>by
  obtain ⟨o,g,_⟩:=h1.R.kind f
  rw [e] at g;injection g
 have p:aI I5 w C B fr (Ch3 I H2.objs.size h'.objs.size) as s as hh { s with heap:=Ie,toks:=tk+([]:List (Str×Value)).length }:=
  aI.grow (s':={ s with heap:=Ie,toks:=tk+([]:List (Str×Value)).length }) h1 (fun b o e=>kk b o (k b o e)) rfl rfl
 have V:bg I5 w C B fr as s I H2.objs.size h'.objs.size St 0 [] as hh { s with heap:=Ie,toks:=tk+([]:List (Str×Value)).length }:=
  ⟨p,T.move 0 as h' as Ie st ⟨[],(th as).symm⟩ (fun a o Z e=>kk a o e) (fun a Z=>.keep fun o e=>kk a o e),⟨#[],_,gD,.nil⟩,⟨_,IQ⟩,off N3.l,off N3.d⟩
 have loop:=vI (elt:=elt) (iter:=iter) (ifs:=ifs) (px:=px) (pos:=pos) (cl:=cl) (RR:=RR (.ref h'.objs.size) H2.objs.size) h1 N3 N S hx hcl hcl2 T (hE _) (hT _) (fun as' s' F=>hR _ _ _ _ N3 F) 100000 0 [] as hh _ V hgo (by simp)
 exact codeAny_compStart_list loop (T.self 0 as _ _ _ V.st loop)
theorem qh {I L D:Addr} {ysV:List V} {hhE:H} {h'':Heap} {tk:Nat} (h1:aP I5 w C B fr as hh s) (N3:fy s I L D) (F:j4 I5 w C B fr as s I L D ysV as' hhE s') (hs:Heap.SameBut L s'.heap h''):
  ∃as'',aI I5 w C B fr ay as s as'' (hhE++[.list ysV]) { s' with heap:=h'',toks:=tk }/\am as'' h'' (.ref hhE.length) (.ref D)/\as''=as'++[(D,D)]:=by
 have nb:∀{a},s.heap.get? a=none->B.get? a=none:=fun {a} e=>by
  rcases z:B.get? a with _|o
  ·rfl
  ·have:=h1.R.base _ _ z;rw [e] at this;injection this
 obtain ⟨ys,k,gD,r⟩:=F.res
 obtain ⟨m,oL,es,ep,gL,dL,_⟩:=F.ns
 have kp:∀b o,¬(b=L)->s'.heap.get? b=some o->h''.get? b=some o:=fun b o ne e=>(hs.2 b ne).trans e
 have nsL:¬solid oL:=by
  rintro (⟨_,_,_,d,_⟩|⟨_,_,d⟩)
  ·exact nomatch dL.symm.trans d
  ·exact nomatch dL.symm.trans d
 have O:Own B fr (·=L) as' s'.heap:=⟨fun a c=>by subst c;exact nb N3.l,fun a c=>by subst c;exact F.off.1,fun a c=>by subst c;exact ⟨_,gL,nsL⟩,fun a c=>by subst c;exact h1.F.notNew N3.l⟩
 have p2:aI I5 w C B fr (fun a=>Ch3 I L D a\/a=L) as' s' as' hhE { s' with heap:=h'',toks:=tk }:=aI.but (s':={ s' with heap:=h'',toks:=tk }) (own:=Ch3 I L D) ⟨F.post.rel,F.post.frs⟩ O kp rfl rfl
 have e:(fun a=>Ch3 I L D a\/a=L)=Ch3 I L D:=by
  funext a
  apply propext
  constructor
  ·rintro (h|rfl)
   ·exact h
   ·exact .inr (.inl rfl)
  ·exact .inl
 rw [e] at p2
 have p3:=F.post.trans p2
 have new:∀a,Ch3 I L D a->s.heap.get? a=none:=fun a c=>by
  rcases c with rfl|rfl|rfl
  ·exact N3.i
  ·exact N3.l
  ·exact N3.d
 have p4:aI I5 w C B fr ay as s as' hhE { s' with heap:=h'',toks:=tk }:=⟨p3.step.drop new,p3.rel,p3.frs,p3.gens,p3.os⟩
 have gD':h''.get? D=some { cls:=.type "list",data:=.seq ys k }:=kp _ _ (Ne.symm N3.ld) gD
 have nsD:¬solid ({ cls:=.type "list",data:=.seq ys k }:Obj):=oP (T := "list") rfl (by decide)
 have kps:∀a o,s'.heap.get? a=some o->solid o->h''.get? a=some o:=fun a o e6 sd=>kp a o (fun z=>by subst z;rw [gL] at e6;(injection e6 with e6;subst e6);exact nsL sd) e6
 have p5:=aI.adopt (s₃:={ s' with heap:=h'',toks:=tk }) (o:=.list ysV) h1 p4 N3.d F.off.2 ⟨_,gD',nsD⟩ (fun a ob Z e=>e) ⟨rfl,ys,k,gD',(am.mono' (as:=as') (as':=as'++[(D,D)]) ⟨_,rfl⟩ kps).2 r⟩ rfl rfl
 exact ⟨_,p5,fc (as:=as') p4.rel.len (D,D),rfl⟩
theorem AV {C:CV} {sc:Scope} {p:PE} {es:List Expr} {k:Nat} {pos:Pos}:bG C sc p (.Set es k pos)=false:=by rcases p with _|_<;>rfl
theorem gv {iter:Expr} {env:Env} {sc:Scope} {p:PE} (h:bG C sc p iter=true):∀x,foldedSetIterable iter env x=pure x:=by
 induction iter using Expr.casesOn with
 |Set es k pos=>rw [AV] at h;injection h
 |_=>exact fun x=>rfl
theorem ou {elt iter:Expr} {ifs:List Expr} {x:Str} {px pos:Pos} {sc':Scope} {ix:Nat} {pi pe cP:PE} (FX:aU C P B K) (hA:A.handled=none) (hx:C.id x=some ix) (hsc:eh C env.scope sc' x=true) (hs:∀x,foldedSetIterable iter env x=pure x)
  (hit:bh I5 w C P B fr A env ρ cf iter pi) (hE:∀cenv ρ',cenv.scope=dm sc' env.scope->bh I5 w C P B fr A cenv ρ' cf elt pe) (hT:∀cenv ρ',cenv.scope=dm sc' env.scope->iZ I5 w C P B fr A cf cenv ρ' ifs cP):bh I5 w C P B fr A env ρ cf (.ListComp elt [⟨.Name x px,iter,ifs,0⟩] sc' pos) (.comp pe ix pi cP):=by
 intro as hh s h0 N Q E h
 have S:=im hsc
 obtain ⟨cl,hclos,hcl,hcl2⟩:=kn (sc':=sc') (env:=env) fun y hy hf=>by
  obtain ⟨c,_,_,e,_⟩:=N.cellAt y.1 (S.free y hy hf).1
  exact ⟨c,e⟩
 rw [eval_ListComp]
 refine wpAny_comprehension_free (use:=none) rfl hs hclos S.kind S.names ?_
 refine Sim.run h0 (hit as hh s h0 N) h fun v I9 I8 s₁ xv Z p rv h=>ai.opt h fun xs hi h=>?_
 refine hF (tg:=.Name x px) FX hA p.here rv hi _ _ fun I h' tk St T st k hI=>?_
 replace h:ai I5 w C B am fr ay I8 s₁ ((noExc (bN (b5 (isL v I9) v xs) (dG P cf cP pe ix ρ) 100000 0 [] I9)).bd fun ys h=>newList ys h) Q E:=h
 rcases hg:bN (b5 (isL v I9) v xs) (dG P cf cP pe ix ρ) 100000 0 [] I9 with ⟨ysV,hhE⟩|⟨c,h3⟩|_
 ·rw [hg] at h
  refine km (RR:=fun acc L=>compPost (model I5 w) A E none Q acc L) p.here (N.post h0.R p) S hx hcl hcl2 T st k hI (fun L v=>hE _ _ rfl) (fun L v=>hT _ _ rfl) hg fun D L as' s' N3 F=>?_
  obtain ⟨m,hns⟩:=F.ns
  refine ⟨m,hns,fun h'' hs''=>?_⟩
  obtain ⟨as'',p5,rv5,_⟩:=qh (tk:=s'.toks) p.here N3 F hs''
  exact ai.ifr h fun Z h=>h _ _ _ p5 rv5
 ·rw [hg] at h;exact h.elim
 ·rw [hg] at h;exact h.elim
end
end
section
open W PyProof.Rows SeqAt
section
variable {I5:Program} {w:World} {C:CV} {P:PT} {K:Frag} {B:Heap} {fr:List Env} {own:Addr->Prop} {A:Around} {Q:Value->Shared->Prop} {E:Value->Shared->Prop} {as as':AS} {s s':Shared} {hh hh':H} {env:Env} {ρ:Loc} {cf:V->List V->PM V} {n:Nat}
theorem uK (hA:AOK A fr n) (CK:cj I5 w C B P cf n):∀as hh s v x vs xs,aP I5 w C B fr as hh s->am as s.heap v x->aj as s.heap vs xs->d9 I5 w C B fr A as s x xs (bJ cf v vs hh):=by
 intro as hh s v x vs xs h0 rv rvs
 have gen:d9 I5 w C B fr A as s x xs ((cf v vs hh).bd vV):=(CK A fr as hh s v x vs xs hA h0 rv rvs).noX
 induction v using V.casesOn with
 |bf id=>rw [show x=_ from rv.inv];exact rN hA.handled h0 rvs
 |bt T=>rw [show x=_ from rv.inv];exact oC hA.handled h0 rvs
 |_=>exact gen
theorem B1 (FX:aU C P B K) (hA:AOK A fr n) (CK:cj I5 w C B P cf n):∀as hh s m v i x vs xs,aP I5 w C B fr as hh s->am as s.heap v x->aj as s.heap vs xs->d9 I5 w C B fr A as s (vZ m i) (x::xs) (fJ cf m v i vs hh):=by
 intro as hh s m v i x vs xs h0 rv rvs
 have hu:=hA.units
 rcases m with f|_|_|_
 ·exact (CK A fr as hh s (.fn _) (.ref _) (v::vs) (x::xs) hA h0 (.fn _) (.cons rv rvs)).noX
 ·intro Q E h
  refine ai.opt h fun z hz h=>?_
  rw [V.str_of hz] at rv
  obtain ⟨t,e⟩:=rv.inv
  rw [e]
  exact lw h0 rvs Q E h
 ·intro Q E h
  refine ai.opt h fun m hm h=>ai.opt h fun zs hz h=>?_
  rw [V.ref_of hm] at rv
  obtain ⟨p,hp,e⟩:=rv.inv
  rw [e]
  exact oE h0 hp hz rvs Q E h
 ·intro Q E h
  refine ai.opt h fun m hm h=>ai.opt h fun zs hz h=>?_
  rw [V.ref_of hm] at rv
  obtain ⟨p,hp,e⟩:=rv.inv
  rw [e]
  exact oF FX (by unfold cLine;omega) h0 hp hz rvs Q E h
theorem pE (hA:AOK A fr n):A.units+2 < cLine:=by have:=hA.units;unfold cLine;omega
theorem uh {p:PE} (h:GP p=true):p=.bool true:=isT.to (by
 clear h
 induction p using PE.casesOn with
 |bool b=>rcases b with _|_<;>first|exact trivial|exact rfl
 |_=>exact trivial) h
theorem mV (f:Expr) (es:List Expr) (q:Pos):isT (isTrue (.Call f es [] q) env (eval (.Call f es [] q) env)=(do let v <-eval (.Call f es [] q) env;standAt (Expr.Call f es [] q).pos;holding [v] (PySem.truthy v))) (iF f).isNone:=by
 rcases f with _|_<;>first|exact rfl|exact trivial
theorem vM {f:Expr} {es:List Expr} {q:Pos} (h:(iF f).isNone=true):isTrue (.Call f es [] q) env (eval (.Call f es [] q) env)=(do let v <-eval (.Call f es [] q) env;standAt (Expr.Call f es [] q).pos;holding [v] (PySem.truthy v)):=(mV f es q).to h
abbrev Gz (I5:Program) (w:World) (C:CV) (P:PT) (B:Heap) (fr:List Env) (A:Around) (env:Env) (ρ:Loc) (cf:V->List V->PM V) (e:Expr) (p:PE):Prop:=bh I5 w C P B fr A env ρ cf e p/\cg I5 w C P B fr A env ρ cf e p
mutual
theorem aB (FX:aU C P B K) (hA:AOK A fr n) (CK:cj I5 w C B P cf n) (p:PE) (e:Expr) (env:Env) (ρ:Loc) (h:bG C env.scope p e=true):Gz I5 w C P B fr A env ρ cf e p:=by
 have hu:=pE hA
 have hu0:=Nat.lt_of_le_of_lt (Nat.le_add_right A.units 2) hu
 match p with
 |.none=>
  refine ac h fun c hc h=>?_
  obtain ⟨k,q,rfl⟩:=da hc
  rw [eq_of_beq h]
  exact ⟨AG,bw fun Z=>rfl⟩
 |.bool b=>
  refine ac h fun c hc h=>?_
  obtain ⟨k,q,rfl⟩:=da hc
  rw [eq_of_beq h]
  exact ⟨uD,dR uD rfl fun Z=>rfl⟩
 |.int i=>
  refine ac h fun c hc h=>?_
  obtain ⟨k,q,rfl⟩:=da hc
  rw [eq_of_beq h]
  exact ⟨Dj,bw fun Z=>rfl⟩
 |.str s=>
  refine ac h fun c hc h=>?_
  refine ac h fun z hz h2=>?_
  obtain ⟨k,q,rfl⟩:=da hc
  rw [nP hz,<-eq_of_beq h2]
  exact ⟨Df,bw fun Z=>rfl⟩
 |.loc x=>
  refine ac h fun y hy h=>?_
  refine a7 h fun h1 h2=>?_
  obtain ⟨q,rfl⟩:=dX hy
  have k:=oW (I5:=I5) (w:=w) (fr:=fr) (A:=A) (ρ:=ρ) (cf:=cf) (pos:=q) FX (eq_of_beq h1) h2
  exact ⟨k,dR k rfl fun hh=>by show bq _ _=R.bd (eB _ _) _;rcases ρ.lookup x with _|_<;>rfl⟩
 |.stat v=>
  refine ac h fun y hy h=>?_
  refine a7 h fun h1 h2=>?_
  refine ac h2 fun v' h2 h3=>?_
  obtain ⟨q,rfl⟩:=dX hy
  exact ⟨AF FX (eq_of_beq h1) (h2.trans (congrArg some (sY v v' h3))),bw fun Z=>rfl⟩
 |.attr p x=>
  refine ac h fun t ht h=>?_
  refine a7 h fun h h3=>?_
  refine a7 h fun h1 h2=>?_
  obtain ⟨q,rfl⟩:=io ht
  have k:=mT (pos:=q) FX (eq_of_beq h1) h2 (aB FX hA CK p t.1 env ρ h3).1
  exact ⟨k,dR k rfl fun hh=>by show R.bd (ev P cf p ρ hh) _=R.bd (R.bd (ev P cf p ρ hh) _) _;rcases ev P cf p ρ hh with _|_<;>rfl⟩
 |.call f ps=>
  refine ac h fun t ht h=>?_
  refine a7 h fun h h3=>?_
  refine a7 h fun h1 h2=>?_
  obtain ⟨q,rfl⟩:=g8 ht
  have k:=uF (pos:=q) h1 (aB FX hA CK f t.1 env ρ h2).1 (dY FX hA CK ps t.2 env ρ h3) (uK hA CK)
  exact ⟨k,dR k (vM h1) fun hh=>by
   show R.bd (ev P cf f ρ hh) _=R.bd (R.bd (ev P cf f ρ hh) _) _
   rcases ev P cf f ρ hh with ⟨v,h⟩|_|_
   ·show R.bd (evs P cf ps ρ h) _=R.bd (R.bd (evs P cf ps ρ h) _) _;rcases evs P cf ps ρ h with _|_<;>rfl
   ·rfl
   ·rfl⟩
 |.meth o x ps=>
  refine ac h fun t ht h=>?_
  refine a7 h fun h h4=>?_
  refine a7 h fun h h3=>?_
  refine a7 h fun h1 h2=>?_
  rw [pB ht]
  have k:=AH (apos:=t.apos) (pos:=t.pos) FX (aB FX hA CK o t.o env ρ h3).1 (dY FX hA CK ps t.as env ρ h4) (eq_of_beq h1) h2 (B1 FX hA CK)
  exact ⟨k,dR k rfl fun hh=>by
   show R.bd (ev P cf o ρ hh) _=R.bd (R.bd (ev P cf o ρ hh) _) _
   rcases ev P cf o ρ hh with ⟨v,h⟩|_|_
   ·show R.bd (jt P v x h) _=R.bd (R.bd (jt P v x h) _) _
    rcases jt P v x h with ⟨m,h⟩|_|_
    ·show R.bd (evs P cf ps ρ h) _=R.bd (R.bd (evs P cf ps ρ h) _) _;rcases evs P cf ps ρ h with _|_<;>rfl
    ·rfl
    ·rfl
   ·rfl
   ·rfl⟩
 |.sub o i=>
  refine ac h fun t ht h=>?_
  refine a7 h fun h h3=>?_
  refine a7 h fun h1 h2=>?_
  obtain ⟨q,rfl⟩:=iR ht
  exact ⟨De (Nat.lt_of_succ_lt hu) (aB FX hA CK o t.1 env ρ h2).1 (aB FX hA CK i t.2 env ρ h3).1,bw fun Z=>rfl⟩
 |.slice o lo hi=>
  refine ac h fun t ht h=>?_
  refine ac h fun c hc h=>?_
  refine a7 h fun h h4=>?_
  refine a7 h fun h h3=>?_
  refine a7 h fun h1 h2=>?_
  obtain ⟨q,rfl⟩:=iR ht
  obtain ⟨q',e⟩:=n8 hc
  rw [e,cG h1]
  exact ⟨xr (aB FX hA CK o t.1 env ρ h2).1 (kE h3 fun x hx=>(aB FX hA CK lo x env ρ hx).1) (kE h4 fun x hx=>(aB FX hA CK hi x env ρ hx).1),bw fun Z=>rfl⟩
 |.rev o=>
  refine ac h fun t ht h=>?_
  refine ac h fun c hc h=>?_
  refine a7 h fun h h4=>?_
  refine a7 h fun h h3=>?_
  refine a7 h fun h1 h2=>?_
  obtain ⟨q,rfl⟩:=iR ht
  obtain ⟨q',e⟩:=n8 hc
  refine ac h3 fun x hx h3=>?_
  obtain ⟨k,p1,p2,e2⟩:=oi h3
  rw [e,cG h1,cG h2,hx,e2]
  exact ⟨Dg (aB FX hA CK o t.1 env ρ h4).1,bw fun Z=>rfl⟩
 |.bin op a b=>
  refine ac h fun t ht h=>?_
  refine a7 h fun h h3=>?_
  refine a7 h fun h1 h2=>?_
  obtain ⟨q,rfl⟩:=z7 ht
  rw [eq_of_beq h1]
  exact ⟨xy (aB FX hA CK a t.1 env ρ h2).1 (aB FX hA CK b t.2.2 env ρ h3).1,bw fun Z=>rfl⟩
 |.neg a=>
  refine ac h fun t ht h=>?_
  refine a7 h fun h1 h2=>?_
  obtain ⟨q,rfl⟩:=sw ht
  rw [eq_of_beq h1]
  exact ⟨Di (aB FX hA CK a t.2 env ρ h2).1,bw fun Z=>rfl⟩
 |.not a=>
  refine ac h fun t ht h=>?_
  refine a7 h fun h1 h2=>?_
  obtain ⟨q,rfl⟩:=sw ht
  rw [eq_of_beq h1]
  obtain ⟨k1,k2⟩:=aB FX hA CK a t.2 env ρ h2
  exact ⟨Dh k1,wu k2⟩
 |.cmp a op b=>
  refine ac h fun t ht h=>?_
  refine a7 h fun h1 h=>?_
  refine ac h fun y hy h=>?_
  refine a7 h fun h h4=>?_
  refine a7 h fun h2 h3=>?_
  obtain ⟨q,rfl⟩:=tB ht
  rw [eq_of_beq h1,one_of hy]
  have k1:=(aB FX hA CK a t.1 env ρ h3).1
  have k2:=(aB FX hA CK b y env ρ h4).1
  exact ⟨ow FX hu0 h2 k1 k2,lm FX hu0 h2 k1 k2⟩
 |.chain a op b op2 c=>
  refine ac h fun t ht h=>?_
  refine a7 h fun h1 h=>?_
  refine ac h fun y hy h=>?_
  refine a7 h fun h h5=>?_
  refine a7 h fun h h4=>?_
  refine a7 h fun h2 h3=>?_
  obtain ⟨q,rfl⟩:=tB ht
  rw [eq_of_beq h1,lQ hy]
  have k1:=(aB FX hA CK a t.1 env ρ h3).1
  have k2:=(aB FX hA CK b y.1 env ρ h4).1
  have k3:=(aB FX hA CK c y.2 env ρ h5).1
  exact ⟨xu FX hu0 h2 k1 k2 k3,qF FX hu0 h2 k1 k2 k3⟩
 |.and a b=>
  refine ac h fun t ht h=>?_
  refine a7 h fun h h3=>?_
  refine a7 h fun h1 h2=>?_
  obtain ⟨y,r,q,rfl,e⟩:=kQ ht
  obtain ⟨k1,k2⟩:=aB FX hA CK a t.2.1 env ρ h2
  obtain ⟨k3,k4⟩:=aB FX hA CK b t.2.2 env ρ h3
  rw [e,eq_of_beq h1] at k3 k4
  rw [eq_of_beq h1]
  exact ⟨Dk k1 k3,true_and k2 k4⟩
 |.or a b=>
  refine ac h fun t ht h=>?_
  refine a7 h fun h h3=>?_
  refine a7 h fun h1 h2=>?_
  obtain ⟨y,r,q,rfl,e⟩:=kQ ht
  obtain ⟨k1,k2⟩:=aB FX hA CK a t.2.1 env ρ h2
  obtain ⟨k3,k4⟩:=aB FX hA CK b t.2.2 env ρ h3
  rw [e,eq_of_beq h1] at k3 k4
  rw [eq_of_beq h1]
  exact ⟨BY k1 k3,z9 k2 k4⟩
 |.ite c a b=>
  refine ac h fun t ht h=>?_
  refine a7 h fun h h3=>?_
  refine a7 h fun h1 h2=>?_
  obtain ⟨q,rfl⟩:=Cj ht
  exact ⟨xx (aB FX hA CK c t.1 env ρ h1).2 (aB FX hA CK a t.2.1 env ρ h2).1 (aB FX hA CK b t.2.2 env ρ h3).1,bw fun Z=>rfl⟩
 |.tup ps=>
  refine ac h fun es ht h=>?_
  refine a7 h fun h1 h2=>?_
  obtain ⟨k,q,rfl⟩:=fM ht
  exact ⟨xw (of_decide_eq_true h1) (dY FX hA CK ps es env ρ h2),bw fun Z=>rfl⟩
 |.list ps=>
  refine ac h fun es ht h=>?_
  refine a7 h fun h1 h2=>?_
  obtain ⟨q,rfl⟩:=pC ht
  exact ⟨uE (of_decide_eq_true h1) (dY FX hA CK ps es env ρ h2),bw fun Z=>rfl⟩
 |.dict ks ps=>
  refine ac h fun t ht h=>?_
  refine a7 h fun h h3=>?_
  refine a7 h fun h1 h2=>?_
  obtain ⟨q,rfl⟩:=wt ht
  exact ⟨AI (of_decide_eq_true h1) h2 (dY FX hA CK ps t.2 env ρ h3),bw fun Z=>rfl⟩
 |.comp elt x it c=>
  refine ac h fun t ht h=>?_
  refine a7 h fun h h5=>?_
  refine a7 h fun h h4=>?_
  refine a7 h fun h h3=>?_
  refine a7 h fun h1 h2=>?_
  refine ac h5 fun o ho h5=>?_
  obtain ⟨px,q,rfl⟩:=pD ht
  refine ⟨ou FX hA.handled (eq_of_beq h1) h2 (gv h4) (aB FX hA CK it t.it env ρ h4).1 (fun cenv ρ' hc=>(aB FX hA CK elt t.elt cenv ρ' (hc▸h3)).1) (fun cenv ρ' hc=>?_),bw fun Z=>rfl⟩
  rw [ul ho]
  rcases o with _|y
  ·exact .inl ⟨rfl,uh h5⟩
  ·exact .inr ⟨y,rfl,(aB FX hA CK c y cenv ρ' (hc▸h5)).2⟩
theorem dY (FX:aU C P B K) (hA:AOK A fr n) (CK:cj I5 w C B P cf n) (ps:List PE) (es:List Expr) (env:Env) (ρ:Loc) (h:fV C env.scope ps es=true):dK I5 w C P B fr A env ρ cf es ps:=by
 match ps,es with
 |[],es=>rw [aL h];exact .nil
 |_::_,[]=>cases h
 |p::ps,e::es=>
  refine a7 h fun h1 h2=>?_
  refine a7 h1 fun h3 h4=>?_
  exact .cons h3 (aB FX hA CK p e env ρ h4).1 (dY FX hA CK ps es env ρ h2)
end
end
end
section
open W PyProof.Rows SeqAt
section
variable {I5:Program} {w:World} {C:CV} {P:PT} {K:Frag} {B:Heap} {fr:List Env} {own:Addr->Prop} {A:Around} {as as':AS} {s s':Shared} {hh hh':H} {env:Env} {ρ:Loc} {cf:V->List V->PM V} {n:Nat}
structure jB (own:Addr->Prop) (as:AS) (h:Heap):Prop where
 at_:∀a,own a->∃o,h.get? a=some o/\¬solid o
 noExc:∀a o,own a->h.get? a=some o->¬jP o
 off:∀a,own a->¬foot as a
theorem jB.alive {h:Heap} (O:jB own as h) {a:Addr} (ha:own a):(h.get? a).isSome=true:=by obtain ⟨o,e,_⟩:=O.at_ a ha;rw [e];rfl
theorem wZ {o:Obj} (h1:∀xs n,o.data≠.seq xs n) (h2:∀vs,o.data≠.fields vs):¬solid o:=by
 rintro (⟨_,_,_,d,_⟩|⟨_,_,d⟩)
 ·exact h1 _ _ d
 ·exact h2 _ d
theorem aF.ownOK (R:bW I5 w C B as hh s.heap) (N:aF C env ρ as s.heap):jB (aG env) as s.heap:=by
 have key:∀a,aG env a->¬foot as a/\∃o,s.heap.get? a=some o/\(∀xs n,o.data≠.seq xs n)/\∀vs,o.data≠.fields vs:=fun a ha=>by
  rcases ha with e|⟨y,hy,hc⟩
  ·obtain ⟨m,⟨oL,es,ep,gL,dL,_⟩,_⟩:=N.loc
   rw [e]
   exact ⟨N.off,oL,gL,by rw [dL];nofun,by rw [dL];nofun⟩
  ·obtain ⟨c,o,z,e,g,d⟩:=N.cellAt y (.inl hy)
   have e2:a=c:=be (hc.symm.trans e)
   rw [e2]
   exact ⟨fun f=>R.noCell f g ⟨_,d⟩,o,g,by rw [d];nofun,by rw [d];nofun⟩
 refine ⟨fun a ha=>?_,fun a o ha g=>?_,fun a ha=>(key a ha).1⟩
 ·obtain ⟨_,o,g,h1,h2⟩:=key a ha
  exact ⟨o,g,wZ h1 h2⟩
 ·obtain ⟨_,o',g',_,h2⟩:=key a ha
  rw [g] at g'
  (injection g' with g';subst g')
  exact fun ⟨_,vs,q⟩=>h2 vs q
theorem aI.lift (O:jB own as s.heap) (p:aI I5 w C B fr ay as s as' hh' s'):aI I5 w C B fr own as s as' hh' s':=⟨p.step.lift fun a h=>O.alive h,p.rel,p.frs,p.gens,p.os⟩
theorem bn.lift {c:Addr} {ev:Value} {e:Addr} {B':Heap} (O:jB own as s.heap) (t:bn I5 w C B fr ay as s c hh' s' ev e as' B'):bn I5 w C B fr own as s c hh' s' ev e as' B':=by
 obtain ⟨t1,t2,t3,t4,t5,t6,t7,t8,tw,tn,t9,t10,t11⟩:=t
 refine ⟨t1,t2,t3,t4,t5,?_,t7,t8,tw,fun q=>?_,fun L o hL g no=>t9 L o hL g id,t10,t11⟩
 case refine_2=>
  obtain ⟨o,g⟩:=Option.isSome_iff_exists.mp (O.alive q)
  exact O.noExc _ o q g (tw o g)
 obtain ⟨⟨r,e,hr⟩,k,l,ee⟩:=t6
 refine ⟨⟨r,e,fun p hp=>⟨(hr p hp).1,fun q=>?_,fun q=>?_⟩⟩,fun a o g nf no hx=>k a o g nf (fun q=>no (.inr (q.resolve_left id))) hx,fun a g no=>l a g fun q=>no (.inr (q.resolve_left id)),fun a no=>ee a fun q=>no (.inr (q.resolve_left id))⟩
 ·rcases q with q|q
  ·have:=O.alive q;rw [(hr p hp).1.1] at this;injection this
  ·exact (hr p hp).2.1 (.inr q)
 ·rcases q with q|q
  ·have:=O.alive q;rw [(hr p hp).1.2] at this;injection this
  ·exact (hr p hp).2.2 (.inr q)
theorem Sim.runE {α β α' β':Type} {RV:AS->Heap->α->β->Prop} {RV':AS->Heap->α'->β'->Prop} {t:Sem β} {m:R α} {f:α->H->R α'} {Q:β'->Shared->Prop} {E:Value->Shared->Prop} {Kx:β->Shared->Prop}
  (h0:aP I5 w C B fr as hh s) (O:jB own as s.heap) (h1:Sim I5 w C B RV fr ay A t m as s) (h:ai I5 w C B RV' fr own as s (m.bd f) Q E)
  (h2:∀v hh' as' s' x,m=.ok v hh'->aI I5 w C B fr ay as s as' hh' s'->RV as' s'.heap v x->ai I5 w C B RV' fr own as' s' (f v hh') Q E->Kx x s'):wpAny (model I5 w) A t Kx E s:=by
 rcases m with ⟨v,hh'⟩|⟨c,hh'⟩|_
 ·exact h1 _ _ fun as' s' x p rv=>h2 v hh' as' s' x rfl p rv (ai.after h0 (p.lift O) h)
 ·exact h1 _ _ fun s' ev e as' B' T=>h _ _ _ _ _ (T.lift O)
 ·exact h.elim
inductive wj (P:PT) (B:Heap) (as:AS) (h:Heap):Fl->Flow->Prop
 |next:wj P B as h .next .next
 |cont:wj P B as h .cont .cont
 |ret {v:V} {x:Value}:jz P B as h v x->wj P B as h (.ret v) (.ret x)
variable (P C B env) in
def cN (as:AS) (h:Heap) (r:Fl×Loc) (f:Flow):Prop:=wj P B as h r.1 f/\((∀v,r.1≠.ret v)->aF C env r.2 as h)
variable (I5 w C P B fr A env cf n) in
abbrev ju (st:Stmt) (p:PS):Prop:=∀ρ as hh s,aP I5 w C B fr as hh s->aF C env ρ as s.heap->Sim I5 w C B (cN C P B env) fr (aG env) A (exec st env) (ex P cf n p ρ hh) as s
variable (I5 w C P B fr A env cf n) in
abbrev rV (l:List Stmt) (ps:List PS):Prop:=∀ρ as hh s,aP I5 w C B fr as hh s->aF C env ρ as s.heap->Sim I5 w C B (cN C P B env) fr (aG env) A (execs l env) (exs P cf n ps ρ hh) as s
theorem zd {st:Stmt} {r:List Stmt} {p:PS} {ps:List PS} (h1:ju I5 w C P B fr A env cf n st p) (h2:rV I5 w C P B fr A env cf n r ps):rV I5 w C P B fr A env cf n (st::r) (p::ps):=by
 intro ρ as hh s h0 N Q E h
 refine wpAny_execs_cons (Sim.run h0 (h1 ρ as hh s h0 N) h fun v I9 I8 s₁ f Z p rv h=>?_)
 obtain ⟨fl,ρ'⟩:=v
 obtain ⟨fr',N'⟩:=rv
 cases fr' with
 |next=>exact h2 ρ' _ _ _ p.here (N' fun v e=>nomatch e) Q E h
 |cont=>exact ai.now h p.here ⟨.cont,N'⟩
 |ret rv=>exact ai.now h p.here ⟨.ret rv,N'⟩
theorem Cr:rV I5 w C P B fr A env cf n [] []:=fun ρ as hh s h0 N Q E h=>wpAny_execs_nil (ai.now h h0 ⟨.next,fun Z=>N⟩)
theorem ai.nextS {Q:Flow->Shared->Prop} {E:Value->Shared->Prop} (h:ai I5 w C B (cN C P B env) fr own as s (.ok (.next,ρ) hh) Q E) (h0:aP I5 w C B fr as hh s) (N:aF C env ρ as s.heap):Q .next s:=ai.now h h0 ⟨.next,fun Z=>N⟩
variable {E:Value->Shared->Prop}
structure bP (B:Heap) (fr:List Env) (env:Env):Prop where
 frame:env.frame=some env.locals
 top:∃rest,fr=env::rest/\∀e∈rest,e.frame≠some env.locals
 newL:B.get? env.locals=none
 newC:∀y c,env.kindOf y=some .cell->env.cells.lookup y=some c->B.get? c=none/\c≠env.locals/\¬bc fr c
theorem wq {v:V} {x:Value} {h h':Heap} {a:Addr} (hs:Heap.SameBut a h h') (ha:∀o,h.get? a=some o->¬solid o) (r:am as h v x):am as h' v x:=
 (am.mono' (as':=as) ⟨[],(th as).symm⟩ fun b o e sd=>(hs.2 b (fun q=>ha o (q▸e) sd)).trans e).1 r
theorem bP.turn {b:Addr} {h':Heap} {tk:Nat} (SE:bP B fr env) (h0:aP I5 w C B fr as hh s) (N:aF C env ρ as s.heap) (hb:aG env b) (hs:Heap.SameBut b s.heap h')
  (hL:b=env.locals->∃o o',s.heap.get? b=some o/\h'.get? b=some o'/\o'.cls=o.cls/\∀vs,o'.data≠.fields vs):aI I5 w C B fr (aG env) as s as hh { s with heap:=h',toks:=tk }:=by
 obtain ⟨rest,hfr,hrest⟩:=SE.top
 have O:=N.ownOK h0.R
 have k:∀a o,¬a=b->s.heap.get? a=some o->h'.get? a=some o:=fun a o na e=>(hs.2 a na).trans e
 have nB:B.get? b=none:=by
  rcases hb with rfl|⟨y,hy,hc⟩
  ·exact SE.newL
  ·exact (SE.newC y b hy hc).1
 have OB:Own B [] (·=b) as s.heap:=⟨fun a e=>e▸nB,fun a e=>e▸O.off b hb,fun a e=>e▸O.at_ b hb,fun a _ ⟨_,he,_⟩=>nomatch he⟩
 refine ⟨⟨⟨[],(th as).symm,fun Z hp=>nomatch hp⟩,fun a o e Z no Z=>⟨o,k a o (fun c=>no (c▸hb)) e,.refl o⟩,fun a e no=>?_,fun a no=>.keep fun o e=>k a o (fun c=>no (c▸hb)) e⟩,h0.R.but OB k,?_,rfl,rfl⟩
 ·obtain ⟨o,e⟩:=Option.isSome_iff_exists.mp e
  show (h'.get? a).isSome=true
  rw [k a o (fun c=>no (c▸hb)) e];rfl
 ·have xS:∀e∈fr,∀L,e.frame=some L->L≠b->∀o,s.heap.get? L=some o->h'.get? L=some o:=fun e he L hL nb o g=>k L o nb g
  rcases hb with rfl|⟨y,hy,hc⟩
  ·obtain ⟨o,o',g,g',c',d'⟩:=hL rfl
   have rs:∀e∈rest,∀L,e.frame=some L->∀o,s.heap.get? L=some o->h'.get? L=some o:=fun e he L hL o g=>k L o (fun q=>hrest e he (q▸hL)) g
   have F:=h0.F
   subst hfr
   obtain ⟨⟨F1,F2,F3⟩,F4⟩:=F
   refine ⟨⟨F1,⟨env.locals,o',SE.frame,SE.newL,g',d'⟩,cC rs F3⟩,fun e he=>?_⟩
   rcases List.mem_cons.mp he with rfl|he'
   ·obtain ⟨L,o1,e1,g1,c1⟩:=F4 e he
    rw [SE.frame] at e1
    (injection e1 with e1;subst e1)
    rw [g] at g1
    (injection g1 with g1;subst g1)
    exact ⟨e.locals,o',SE.frame,g',c'.trans c1⟩
   ·obtain ⟨L,o1,e1,g1,c1⟩:=F4 e he
    exact ⟨L,o1,e1,rs e he' L e1 o1 g1,c1⟩
  ·have nf:=(SE.newC y b hy hc).2.2
   refine ⟨cC (fun e he L hL o g=>k L o (fun q=>nf (q▸⟨e,he,hL⟩)) g) h0.F.1,fun e he=>?_⟩
   obtain ⟨L,o1,e1,g1,c1⟩:=h0.F.2 e he
   exact ⟨L,o1,e1,k L o1 (fun q=>nf (q▸⟨e,he,e1⟩)) g1,c1⟩
theorem fh {x y:Str} {i j:Nat} {u v:V} (hi:C.id x=some i) (hy:C.id y=some j) (hl:List.lookup j ((i,v)::ρ)=some u):(y=x/\u=v)\/(y≠x/\ρ.lookup j=some u):=by
 rw [so] at hl
 by_cases e:j=i
 ·rw [e,beq_self_eq_true] at hl
  exact .inl ⟨C.id_inj (e▸hy) hi,(be hl).symm⟩
 ·rw [dO e] at hl
  exact .inr ⟨fun q=>e (be (hy.symm.trans (q▸hi))),hl⟩
theorem aF.moved (R:bW I5 w C B as hh s.heap) (N:aF C env ρ as s.heap) {b:Addr} {h':Heap} {v:V} {x:Value} (hb:aG env b) (hs:Heap.SameBut b s.heap h') (r:am as s.heap v x):am as h' v x:=
 wq hs (fun o g sd=>by
  obtain ⟨o',g',l⟩:=(N.ownOK R).at_ _ hb
  rw [g] at g';(injection g' with g';subst g');exact l sd) r
theorem jU {x:Str} {i:Nat} {v:V} {z:Value} {Q:Unit->Shared->Prop} (h0:aP I5 w C B fr as hh s) (N:aF C env ρ as s.heap) (SE:bP B fr env)
  (hk:env.kindOf x=some .local\/env.kindOf x=some .cell) (hi:C.id x=some i) (rv:am as s.heap v z)
  (hQ:∀s',aI I5 w C B fr (aG env) as s as hh s'->aF C env ((i,v)::ρ) as s'.heap->(∀a o,¬aG env a->s.heap.get? a=some o->s'.heap.get? a=some o)->Q () s'):wpAny (model I5 w) A (storeName env x z) Q E s:=by
 obtain ⟨m,hns,hloc⟩:=N.loc
 obtain ⟨rest,hfr,hrest⟩:=SE.top
 rcases hk with hk|hk
 ·rw [storeName_local hk (by rw [N.kind];rfl)]
  obtain ⟨L,oL,hL,gL,cL⟩:=h0.F.2 env (by rw [hfr];exact List.mem_cons_self ..)
  cases be (SE.frame.symm.trans hL)
  refine vk hns gL fun h' o' hn' hs go' co'=>?_
  have ne:∀{y c},env.cells.lookup y=some c->(∃o z,s.heap.get? c=some o/\o.data=.cell z)->c≠env.locals:=fun {y c} e ⟨o,z,g,d⟩ q=>by
   obtain ⟨o1,es,ep,g1,d1,_⟩:=hns
   rw [q,g1] at g;(injection g with g;subst g)
   exact nomatch d1.symm.trans d
  have mv:∀{v x},am as s.heap v x->am as h' v x:=fun r=>N.moved h0.R (.inl rfl) hs r
  refine hQ _ (SE.turn h0 N (.inl rfl) hs fun Z=>⟨oL,o',gL,go',co',fun vs d=>?_⟩) ⟨N.kind,N.glob,N.blt,N.off,⟨_,hn',fun y j u hy hk' hl=>?_⟩,fun y j u hy hk' hl=>?_,fun y hk'=>?_,N.apart⟩ (fun a o no g=>(hs.2 a (fun q=>no (q▸.inl rfl))).trans g)
  ·obtain ⟨o1,es,ep,g1,d1,_⟩:=hn'
   rw [go'] at g1;cases g1
   exact nomatch d1.symm.trans d
  ·rcases fh hi hy hl with ⟨e1,e2⟩|⟨nx,hl⟩
   ·rw [e1,e2];exact ⟨z,if_pos rfl,mv rv⟩
   ·obtain ⟨z',e,r⟩:=hloc y j u hy hk' hl
    exact ⟨z',(if_neg nx).trans e,mv r⟩
  ·rcases fh hi hy hl with ⟨e1,e2⟩|⟨nx,hl⟩
   ·rw [e1,hk] at hk'
    rcases hk' with q|q<;>cases q
   ·obtain ⟨c,o,z',e,g,d,r⟩:=N.cell y j u hy hk' hl
    exact ⟨c,o,z',e,(hs.2 c (ne e ⟨o,_,g,d⟩)).trans g,d,mv r⟩
  ·obtain ⟨c,o,z',e,g,d⟩:=N.cellAt y hk'
   exact ⟨c,o,z',e,(hs.2 c (ne e ⟨o,_,g,d⟩)).trans g,d⟩
 ·obtain ⟨c,o,z',e,g,d⟩:=N.cellAt x (.inl hk)
  refine wpAny_storeName_cell N.kind hk e ⟨o,g,d⟩ fun h' hc hs=>?_
  have hb:aG env c:=.inr ⟨x,hk,e⟩
  have neL:=(SE.newC x c hk e).2.1
  have mv:∀{v x},am as s.heap v x->am as h' v x:=fun r=>N.moved h0.R hb hs r
  refine hQ _ (SE.turn (tk:=s.toks) h0 N hb hs fun q=>absurd q neL) ⟨N.kind,N.glob,N.blt,N.off,⟨m,hns.sameBut hs (Ne.symm neL),fun y j u hy hk' hl=>?_⟩,fun y j u hy hk' hl=>?_,fun y hk'=>?_,N.apart⟩ (fun a o no g=>(hs.2 a (fun q=>no (q▸hb))).trans g)
  ·rcases fh hi hy hl with ⟨e1,e2⟩|⟨nx,hl⟩
   ·rw [e1,hk] at hk';cases hk'
   ·obtain ⟨z',e,r⟩:=hloc y j u hy hk' hl
    exact ⟨z',e,mv r⟩
  ·obtain ⟨oc,gc,dc⟩:=hc
   rcases fh hi hy hl with ⟨e1,e2⟩|⟨nx,hl⟩
   ·rw [e1,e2];exact ⟨c,oc,z,e,gc,dc,mv rv⟩
   ·obtain ⟨c',o',z',e',g',d',r⟩:=N.cell y j u hy hk' hl
    exact ⟨c',o',z',e',(hs.2 c' fun q=>nx (N.apart x y c hk e (q▸e')).symm).trans g',d',mv r⟩
  ·obtain ⟨oc,gc,dc⟩:=hc
   obtain ⟨c',o',z',e',g',d'⟩:=N.cellAt y hk'
   by_cases q:c'=c
   ·exact ⟨c',oc,_,e',q▸gc,dc⟩
   ·exact ⟨c',o',z',e',(hs.2 c' q).trans g',d'⟩
theorem dP {x:Str} {i:Nat} {v:V} {z:Value} {Q:Unit->Shared->Prop} (h0:aP I5 w C B fr as hh s) (N:aF C env ρ as s.heap) (SE:bP B fr env)
  (hk:env.kindOf x=some .local\/env.kindOf x=some .cell) (hi:C.id x=some i) (rv:am as s.heap v z)
  (hQ:∀s',aI I5 w C B fr (aG env) as s as hh s'->aF C env ((i,v)::ρ) as s'.heap->Q () s'):wpAny (model I5 w) A (storeName env x z) Q E s:=
 jU h0 N SE hk hi rv fun s' p N' Z=>hQ s' p N'
variable (I5 w C P B fr A env cf) in
variable {e:Expr} {pe:PE} {pos:Pos}
theorem Ct (he:∀ρ,bh I5 w C P B fr A env ρ cf e pe):ju I5 w C P B fr A env cf n (.Return (some e) pos) (.ret pe):=by
 intro ρ as hh s h0 N Q E h
 refine wpAny_Return_some (Sim.runE h0 (N.ownOK h0.R) (he ρ as hh s h0 N) h fun v I9 I8 s₁ x Z p rv h=>?_)
 exact ai.now h p.here ⟨.ret (.inl rv),fun Z=>N.post h0.R p⟩
theorem qQ:ju I5 w C P B fr A env cf n (.Return none pos) (.ret .none):=fun ρ as hh s h0 N Q E h=>wpAny_Return_none (ai.now h h0 ⟨.ret (.inl .none),fun Z=>N⟩)
theorem nY:ju I5 w C P B fr A env cf n (.Continue pos) .cont:=fun ρ as hh s h0 N Q E h=>wpAny_Continue (ai.now h h0 ⟨.cont,fun Z=>N⟩)
theorem Fn {a b:List Stmt} {pa pb:List PS} (hc:∀ρ,cg I5 w C P B fr A env ρ cf e pe) (ha:rV I5 w C P B fr A env cf n a pa) (hb:rV I5 w C P B fr A env cf n b pb):ju I5 w C P B fr A env cf n (.If e a b pos) (.ite pe pa pb):=by
 intro ρ as hh s h0 N Q E h
 refine wpAny_If (Sim.runE h0 (N.ownOK h0.R) (hc ρ as hh s h0 N) h fun v I9 I8 s₁ x Z p rv h=>?_)
 rw [<-show v=x from rv]
 rcases v with _|_
 ·exact hb ρ _ _ _ p.here (N.post h0.R p) Q E h
 ·exact ha ρ _ _ _ p.here (N.post h0.R p) Q E h
theorem uS (e:Expr) (l:Nat):isT (swapsWith e none l env=pure false) (gP e):=by rcases e with _|_<;>first|exact rfl|exact trivial
theorem zf (hn:gP e=true) (he:∀ρ,bh I5 w C P B fr A env ρ cf e pe):ju I5 w C P B fr A env cf n (.Expr e pos) (.expr pe):=by
 intro ρ as hh s h0 N Q E h
 have hi:interactive env=false:=by unfold interactive;rw [N.kind];rfl
 refine wpAny_Expr_any (Sim.runE h0 (N.ownOK h0.R) (he ρ as hh s h0 N) h fun v I9 I8 s₁ x Z p rv h=>?_) hi ((uS e _).to hn)
 exact ai.nextS h p.here (N.post h0.R p)
theorem kG {x:Nat} {t:Expr} (h:DW C env.scope x t=true):∃y p,t=.Name y p/\C.id y=some x/\(env.kindOf y=some .local\/env.kindOf y=some .cell):=by
 refine ac h fun y hy h=>?_
 obtain ⟨p,e⟩:=dX hy
 refine a7 h fun h1 h2=>?_
 refine ⟨y,p,e,eq_of_beq h1,?_⟩
 rcases Bool.or_eq_true_iff.mp h2 with q|q
 ·exact .inl (eq_of_beq q)
 ·exact .inr (eq_of_beq q)
theorem jS {x:Str} {i:Nat} {p0:Pos} (SE:bP B fr env) (hid:C.id x=some i) (hk:env.kindOf x=some .local\/env.kindOf x=some .cell) (he:∀ρ,bh I5 w C P B fr A env ρ cf e pe) (hsw:swapsWith e (some (.Name x p0)) pos.line env=pure false):ju I5 w C P B fr A env cf n (.Assign [.Name x p0] e pos) (.asg i pe):=by
 intro ρ as hh s h0 N Q E h
 refine wpAny_Assign_Name (Sim.runE h0 (N.ownOK h0.R) (he ρ as hh s h0 N) h fun v I9 I8 s₁ z Z p rv h=>?_) hsw
 exact dP p.here (N.post h0.R p) SE hk hid rv fun I6 I7 Id=>ai.nextS (ai.after p.here I7 h) I7.here Id
theorem qM (e o:Expr) (y:Str) (p0:Pos) (l:Nat):swapsWith e (some (.Attribute o y p0)) l env=pure false:=by rcases e with _|_<;>rfl
theorem uR (e o i:Expr) (p0:Pos) (l:Nat):swapsWith e (some (.Subscript o i p0)) l env=pure false:=by rcases e with _|_<;>rfl
theorem qW {o:Expr} {po:PE} {y:Str} {i:Nat} {p0:Pos} (FX:aU C P B K) (hi:C.id y=some i) (he:∀ρ,bh I5 w C P B fr A env ρ cf e pe) (ho:∀ρ,bh I5 w C P B fr A env ρ cf o po):ju I5 w C P B fr A env cf n (.Assign [.Attribute o y p0] e pos) (.asgA po i pe):=by
 intro ρ as hh s h0 N Q E h
 refine plainObj_wpAny_Assign_Attribute (Sim.runE h0 (N.ownOK h0.R) (he ρ as hh s h0 N) h fun v I9 I8 s₁ z Z p rv h=>?_) (qM ..)
 have Ii:=N.post h0.R p
 refine Sim.runE p.here (Ii.ownOK p.rel) (ho ρ _ _ _ p.here Ii) h fun u Ig Ia I6 x Z I7 ru h=>?_
 have Id:=Ii.post p.rel I7
 refine Sim.runE I7.here (Id.ownOK I7.rel) (fT FX I7.here ru (rv.post p.rel I7) hi) h fun Z Ir Ik s₃ Z Z Ib Z h=>?_
 exact ai.nextS h Ib.here (Id.post I7.rel Ib)
theorem qU {o i:Expr} {po pi:PE} {p0:Pos} (hu:A.units+2 < cLine) (he:∀ρ,bh I5 w C P B fr A env ρ cf e pe) (ho:∀ρ,bh I5 w C P B fr A env ρ cf o po) (hi:∀ρ,bh I5 w C P B fr A env ρ cf i pi):ju I5 w C P B fr A env cf n (.Assign [.Subscript o i p0] e pos) (.asgI po pi pe):=by
 intro ρ as hh s h0 N Q E h
 refine wpAny_Assign_Subscript (Sim.runE h0 (N.ownOK h0.R) (he ρ as hh s h0 N) h fun v I9 I8 s₁ z Z p rv h=>?_) (uR ..)
 have Ii:=N.post h0.R p
 refine Sim.runE p.here (Ii.ownOK p.rel) (ho ρ _ _ _ p.here Ii) h fun u Ig Ia I6 x Z I7 ru h=>?_
 have Id:=Ii.post p.rel I7
 refine Sim.runE I7.here (Id.ownOK I7.rel) (hi ρ _ _ _ I7.here Id) h fun k Ir Ik s₃ y Z Ib rk h=>?_
 have Ij:=Id.post I7.rel Ib
 refine Sim.runE Ib.here (Ij.ownOK Ib.rel) (o6 hu Ib.here (ru.post I7.rel Ib) rk ((rv.post p.rel I7).post I7.rel Ib)) h fun Z J9 Ja IP Z Z Ip Z h=>?_
 exact ai.nextS h Ip.here (Ij.post Ib.rel Ip)
end
end
section
open W PyProof.Rows SeqAt
section
variable {I5:Program} {w:World} {C:CV} {P:PT} {K:Frag} {B:Heap} {fr:List Env} {own:Addr->Prop} {A:Around} {as as':AS} {s s':Shared} {hh hh':H} {env:Env} {ρ:Loc} {cf:V->List V->PM V} {n:Nat} {E:Value->Shared->Prop} {c e:Addr} {ev:Value} {B':Heap}
theorem bn.slide {h':Heap} (T:bn I5 w C B fr own as s c hh' s' ev e as' B') (k1:B'.StaysIn h') (k2:h'.FunFrames B' fr) (k3:C9 B' fr e c h') (k4:s'.heap.UpToSlots h'):
  bn I5 w C B fr own as s c hh' { s' with heap:=h' } ev e as' B':=by
 have fl:∀env∈fr,∀L o,env.frame=some L->s'.heap.get? L=some o->∀vs,o.data≠.fields vs:=fun env he L o hL g=>by
  obtain ⟨_,o',g',d⟩:=T.frames.mem (List.mem_filterMap.mpr ⟨env,he,hL⟩)
  rw [g] at g';(injection g' with g';subst g');exact d
 refine ⟨T.isRef,k1,T.new,k2,k3,T.step,T.rel,fun env he=>?_,T.was,T.notOwn,fun L o hL g no=>?_,T.gens,T.os⟩
 ·obtain ⟨L,o,hL,g,c⟩:=T.frs env he
  obtain ⟨sl,g'⟩:=k4 L o g (fl env he L o hL g)
  exact ⟨L,_,hL,g',c⟩
 ·obtain ⟨sl,IA⟩:=T.slots L o hL g no
  obtain ⟨env,he,hf⟩:=hL
  obtain ⟨sl',Io⟩:=k4 L _ IA (fl env he L _ hf IA)
  exact ⟨sl',Io⟩
theorem bn.noted {Q:Unit->Shared->Prop} (hA:A.frames=some fr) (SE:bP B fr env) (T:bn I5 w C B fr own as s c hh' s' ev e as' B')
  (h:∀s'' a0,bn I5 w C B fr own as s c hh' s'' ev e as' B'->s''.heap.TracedAtW B' e (.ref c) a0 (rawInt env.locals)->Q () s''):wpAny (model I5 w) A (noteFrame ev env) Q E s':=by
 obtain ⟨rest,hfr,_⟩:=SE.top
 have hf:=SE.frame
 have T0:=T
 obtain ⟨t1,t2,t3,t4,t5,t6,t7,t8,tw,tn,t9,t10,t11⟩:=T
 subst t1 hfr
 have fin:∀a0 h',Heap.NotedW B' (env::rest) e (.ref c) a0 (rawInt env.locals) s'.heap h'->Q () { s' with heap:=h' }:=fun a0 h' N=>by
  obtain ⟨k1,k2,k3,k4⟩:=N
  exact h _ a0 (T0.slide k1 k2 (.inr (.inr ⟨a0,env,rest,env.locals,rfl,hf,k3⟩)) k4) k3
 rcases t5 with ⟨o,vs,a0,g,hc,hd,h0,h1⟩|⟨a0,ht⟩|⟨a0,env',rest',L,e1,e2,ht⟩
 ·unfold noteFrame
  simp only [hf]
  refine wpAny_bind (wpAny_field g hd h1 ?_)
  rw [if_neg (by decide)]
  exact wpAny_entryW hA t4 hf g t2 t3 hd (Array.getElem?_eq_some_iff.mp h1).1 h0 fun h' N=>fin a0 h' (hc▸N)
 ·exact wpAny_noteFrame_onW hA t4 hf ht t2 t3 fun h' N=>fin a0 h' N
 ·cases e1
  rw [hf] at e2;(injection e2 with e2;subst e2)
  exact wpAny_noteFrame_againW hf ht (h _ a0 T0 ht)
theorem bn.cameBack {a0:Value} {E':Value->Shared->Prop} (SE:bP B fr env) (T:bn I5 w C B fr own as s c hh' s' ev e as' B') (ht:s'.heap.TracedAtW B' e (.ref c) a0 (rawInt env.locals))
  (h:∀s'',bn I5 w C B fr own as s c hh' s'' ev e as' B'->E' ev s''):cameBackBy (model I5 w) A env E' ev s':=by
 obtain ⟨rest,hfr,_⟩:=SE.top
 have hf:=SE.frame
 have T0:=T
 obtain ⟨t1,t2,t3,t4,t5,t6,t7,t8,tw,tn,t9,t10,t11⟩:=T
 subst t1 hfr
 obtain ⟨oe,vs,T,oT,ts,he,hcls,hd,h1,hnT,hTe,hT,hdT,h3⟩:=ht
 have hsz3:3 < ts.size:=(Array.getElem?_eq_some_iff.mp h3).1
 have other:∀b,b≠T->(s'.heap.update T (Obj.mapFields (·.setIfInBounds 3 ((some env.locals).elim Value.none fun f=>rawInt f)))).get? b=s'.heap.get? b:=
  fun b hb=>Heap.get?_update_other _ _ (Ne.symm hb)
 have noRecord:∀b o,s'.heap.get? b=some o->(∀vs,o.data≠.fields vs)->b≠T:=fun b o hb hnf q=>by
  rw [q,hT] at hb;injection hb with hb;subst hb;exact hnf ts hdT
 unfold cameBackBy
 refine wpAny_bind (wpAny_field he hd h1 ?_)
 rw [if_neg (show ¬(Value.ref T==Value.none)=true from by simp)]
 unfold setFlight
 rw [hf]
 refine wpAny_bind (wpAny_field he hd h1 ?_)
 rw [if_pos (show (Value.ref T != Value.none)=true from by simp)]
 refine wpAny_setField hT hdT hsz3 (h _ (T0.slide (fun b o hbo=>(other b fun q=>by rw [q,hnT] at hbo;injection hbo).trans (t2 b o hbo))
  (t4.of_keeps fun b o hb hnf=>⟨o,(other b (noRecord b o hb hnf)).trans hb,rfl⟩) (.inr (.inr ⟨a0,env,rest,env.locals,rfl,hf,?_⟩)) fun b o hb hnf=>⟨o.slots,(other b (noRecord b o hb hnf)).trans hb⟩))
 exact ⟨oe,vs,T,_,_,(other e (Ne.symm hTe)).trans he,hcls,hd,h1,hnT,hTe,HX _ hT (Obj.isFreed_of_fields (Obj.data_mapFields hdT _)),Obj.data_mapFields hdT _,by simp [hsz3]⟩
theorem ai.noted {α β:Type} {RV:AS->Heap->α->β->Prop} {m:R α} {Q:β->Shared->Prop} {E:Value->Shared->Prop} (hA:A.frames=some fr) (SE:bP B fr env) (h:ai I5 w C B RV fr own as s m Q E):
  ai I5 w C B RV fr own as s m Q (notedBy (model I5 w) A env fun e s'=>cameBackBy (model I5 w) A env E e s'):=by
 rcases m with ⟨v,h3⟩|⟨c,h3⟩|_
 ·exact h
 ·exact fun s' ev e as' B' T=>T.noted hA SE fun s'' a0 T' ht=>T'.cameBack SE ht fun s3 T3=>h _ _ _ _ _ T3
 ·exact h
theorem wB {c:Expr} {pc:PE} {b:List Stmt} {pb:List PS} {pos:Pos} (hA:A.frames=some fr) (SE:bP B fr env) (hc:∀ρ,cg I5 w C P B fr A env ρ cf c pc) (hb:rV I5 w C P B fr A env cf n b pb):ju I5 w C P B fr A env cf n (.While c b [] pos) (.whl pc pb):=by
 intro ρ as hh s h0 N Q E h
 refine wpAny_While (codeAny_whileLoop (fun k s=>∃ρ as hh,aP I5 w C B fr as hh s/\aF C env ρ as s.heap/\ai I5 w C B (cN C P B env) fr (aG env) as s (cZ (evT P cf pc) (exs P cf n pb) k ρ hh) Q E) (fun k s hI=>?_) n ⟨ρ,as,hh,h0,N,h⟩)
 clear h N h0
 obtain ⟨ρ,as,hh,h0,N,h⟩:=hI
 rcases k with _|k
 ·exact h.elim
 ·refine xU fun K0 hK=>?_
  have O:=N.ownOK h0.R
  replace h:ai I5 w C B (cN C P B env) fr (aG env) as s ((evT P cf pc ρ hh).bd _) Q E:=h
  refine Sim.runE h0 O (hc ρ as hh s h0 N) (h.noted hA SE) fun v I9 I8 s₁ x hm p rv Z=>?_
  rw [hm] at h
  replace h:=ai.after h0 (p.lift O) h
  have Ii:=N.post h0.R p
  rw [<-show v=x from rv]
  rcases v with _|_
  ·exact hK false s₁ (wpAny_execs_nil (ai.nextS h p.here Ii))
  ·refine hK true s₁ ?_
   clear hK
   refine xU fun K1 hK=>?_
   replace h:ai I5 w C B (cN C P B env) fr (aG env) I8 s₁ (R.bd (exs P cf n pb ρ I9) _) Q E:=h
   refine Sim.run p.here (hb ρ _ _ _ p.here Ii) (h.noted hA SE) fun r Ig Ia I6 f IR I7 rr Z=>?_
   rw [IR] at h
   replace h:=ai.after p.here I7 h
   refine hK f I6 ?_
   clear hK
   obtain ⟨fl,ρ'⟩:=r
   obtain ⟨rf,Id⟩:=rr
   cases rf with
   |next=>exact ⟨k,HS k,ρ',Ia,Ig,I7.here,Id (fun v e=>nomatch e),h⟩
   |cont=>exact ⟨k,HS k,ρ',Ia,Ig,I7.here,Id (fun v e=>nomatch e),h⟩
   |ret rv=>exact ai.now h I7.here ⟨.ret rv,Id⟩
variable {as₀:AS} {Im:Shared}
theorem dh.under {Ch:Addr->Prop} {I8 Ia Ik:AS} {Ie h₂ Ic:Heap} (x:dh own I8 Ie Ia h₂) (y:dh (fun a=>own a\/Ch a) Ia h₂ Ik Ic) (hn:∀a,Ch a->Ie.get? a=none):dh own I8 Ie Ik Ic:=by
 have off:∀a,(Ie.get? a).isSome=true->¬own a->¬(own a\/Ch a):=fun a al no q=>by
  rcases q with q|q
  ·exact no q
  ·rw [hn a q] at al;injection al
 have x':=x
 obtain ⟨⟨r,rfl,hr⟩,k,l,ee⟩:=x
 obtain ⟨⟨r',rfl,hr'⟩,k',l',ee'⟩:=y
 refine ⟨⟨r++r',by simp,fun p hp=>?_⟩,fun a o g nf no hx=>?_,fun a g no=>l' a (l a g no) (off a g no),fun a no=>?_⟩
 ·rcases List.mem_append.mp hp with hp|hp
  ·exact hr p hp
  ·obtain ⟨⟨g1,g2⟩,n1,n2⟩:=hr' p hp
   have dead:∀a,h₂.get? a=none->¬own a->Ie.get? a=none:=fun a g no=>by
    rcases q:Ie.get? a with _|o
    ·rfl
    ·have:=l a (by rw [q];rfl) no;rw [g] at this;injection this
   exact ⟨⟨dead _ g1 fun q=>n1 (.inl q),dead _ g2 fun q=>n2 (.inl q)⟩,fun q=>n1 (.inl q),fun q=>n2 (.inl q)⟩
 ·have al:(Ie.get? a).isSome=true:=by rw [g];rfl
  obtain ⟨Iy,Io,H⟩:=k a o g nf no hx
  obtain ⟨Iz,ID,H'⟩:=k' a Iy Io (x'.offFoot al nf) (off a al no) fun q=>hx (H.exc.mpr q)
  exact ⟨Iz,ID,H.trans H'⟩
 ·rcases q:Ie.get? a with _|o
  ·exact .none q
  ·exact (ee a no).trans (ee' a (off a (by rw [q];rfl) no))
theorem aI.under {Ch:Addr->Prop} {I8 Ia Ik:AS} {s₁ I6 s₃:Shared} {h₂ Ic:H} (x:aI I5 w C B fr own I8 s₁ Ia h₂ I6) (y:aI I5 w C B fr (fun a=>own a\/Ch a) Ia I6 Ik Ic s₃) (hn:∀a,Ch a->s₁.heap.get? a=none):aI I5 w C B fr own I8 s₁ Ik Ic s₃:=
 ⟨x.step.under y.step hn,y.rel,y.frs,y.gens.trans x.gens,y.os.trans x.os⟩
structure iQ (env:Env) (Ch:Addr->Prop):Prop where
 loc:¬Ch env.locals
 cell:∀y c,env.kindOf y=some .cell\/env.kindOf y=some .free->env.cells.lookup y=some c->¬Ch c
theorem aF.beside {h:Heap} {Ch:Addr->Prop} (N:aF C env ρ as h) (hn:∀a,Ch a->h.get? a=none):iQ env Ch:=by
 refine ⟨fun q=>?_,fun y c hk hc q=>?_⟩
 ·obtain ⟨m,⟨o,es,ep,g,_⟩,_⟩:=N.loc
  rw [hn _ q] at g;injection g
 ·obtain ⟨c',o,z,e,g,_⟩:=N.cellAt y hk
  rw [hc] at e;(injection e with e;subst e)
  rw [hn _ q] at g;injection g
theorem aF.but {h h':Heap} {Ch:Addr->Prop} (N:aF C env ρ as h) (S:iQ env Ch) (O:∀a,Ch a->∃o,h.get? a=some o/\¬solid o) (k:∀a o,¬Ch a->h.get? a=some o->h'.get? a=some o):aF C env ρ as h':=by
 have mv:∀{v x},am as h v x->am as h' v x:=fun r=>(am.mono' (as':=as) ⟨[],(th as).symm⟩ fun b o e sd=>k b o (fun c=>by
  obtain ⟨o',g',l⟩:=O b c
  rw [e] at g';(injection g' with g';subst g');exact l sd) e).1 r
 obtain ⟨m,⟨o,es,ep,g,r⟩,hloc⟩:=N.loc
 refine ⟨N.kind,N.glob,N.blt,N.off,⟨m,⟨o,es,ep,k _ _ S.loc g,r⟩,fun y x v h1 h2 h3=>?_⟩,fun y x v h1 h2 h3=>?_,fun y hy=>?_,N.apart⟩
 ·obtain ⟨z,e,rv⟩:=hloc y x v h1 h2 h3
  exact ⟨z,e,mv rv⟩
 ·obtain ⟨c,o,z,e,g,d,rv⟩:=N.cell y x v h1 h2 h3
  exact ⟨c,o,z,e,k _ _ (S.cell y c h2 e) g,d,mv rv⟩
 ·obtain ⟨c,o,z,e,g,d⟩:=N.cellAt y hy
  exact ⟨c,o,z,e,k _ _ (S.cell y c hy e) g,d⟩
variable (I5 w C B fr A env) in
def gd (tg:Expr) (st:V->Loc->Option Loc) (RI:AS->Heap->V->Value->Prop:=am):Prop:=∀ρ ρ₁ as hh (s:Shared) v x (Q:Unit->Shared->Prop) (E:Value->Shared->Prop),aP I5 w C B fr as hh s->aF C env ρ as s.heap->RI as s.heap v x->st v ρ=some ρ₁->
 (∀s',aI I5 w C B fr (aG env) as s as hh s'->aF C env ρ₁ as s'.heap->Q () s')->wpAny (model I5 w) A (assign tg env x) Q E s
theorem dz.post {I:Addr} {Ch:Addr->Prop} {tg:Expr} {nx:Nat->H->Option (Option V)} {St:Nat->AS->Heap->Prop} {RI:AS->Heap->V->Value->Prop} {i:Nat} (T:dz I5 w C B fr A I Ch tg nx St RI) (h0:aP I5 w C B fr as hh s) (O:jB own as s.heap)
  (q:aI I5 w C B fr own as s as' hh' s') (S:St i as s.heap) (cl:∀a,Ch a->¬own a):St i as' s'.heap:=
 T.move _ _ _ _ _ S q.step.pre (fun a o ca g=>by
  rcases ca with ca|sd
  ·obtain ⟨o',g',l⟩:=T.own_ _ _ _ S a ca
   rw [g] at g';(injection g' with g';subst g')
   exact q.step.keepN g (h0.R.off g l.1 l.2.1 l.2.2.1) (cl a ca) l.2.2.2.1
  ·exact q.step.keepN g (h0.R.offSolid g sd) (fun w=>by
    obtain ⟨o',g',l⟩:=O.at_ a w
    rw [g] at g';(injection g' with g';subst g');exact l sd) sd.hard) (fun a f=>q.step.eps a fun w=>O.off a w f)
theorem dz.ownIt {I:Addr} {Ch:Addr->Prop} {tg:Expr} {nx:Nat->H->Option (Option V)} {St:Nat->AS->Heap->Prop} {RI:AS->Heap->V->Value->Prop} {i:Nat} {IS:H} (T:dz I5 w C B fr A I Ch tg nx St RI) (h00:aP I5 w C B fr as₀ IS Im) (dead:∀a,Ch a->Im.heap.get? a=none)
  (p:aI I5 w C B fr (aG env) as₀ Im as hh s) (S:St i as s.heap):Own B fr Ch as s.heap:=by
 refine ⟨fun a c=>?_,fun a c f=>?_,fun a c=>?_,fun a c f=>?_⟩
 ·rcases q:B.get? a with _|o
  ·rfl
  ·exact aw ((dead a c).symm.trans (h00.R.base a o q))
 ·obtain ⟨o,g,l⟩:=T.own_ _ _ _ S a c
  exact p.rel.off g l.1 l.2.1 l.2.2.1 f
 ·obtain ⟨o,g,l⟩:=T.own_ _ _ _ S a c
  exact ⟨o,g,l.2.2.2.2⟩
 ·obtain ⟨o,g,l⟩:=T.own_ _ _ _ S a c
  obtain ⟨o',g',c',_⟩:=p.frs.frame_alive f
  rw [g] at g';(injection g' with g';subst g')
  exact l.2.2.2.1.2 c'
theorem iQ.notOwn {Ch:Addr->Prop} (SB:iQ env Ch) (a:Addr) (ca:Ch a):¬aG env a:=fun o=>by
 rcases o with e|⟨y,hy,hc⟩
 ·exact SB.loc (e▸ca)
 ·exact SB.cell y a (.inl hy) hc ca
variable (I5 w C P B fr env cf n) in
structure tq (as₀:AS) (Im:Shared) (St:Nat->AS->Heap->Prop) (nx:Nat->H->Option (Option V)) (st:V->Loc->Option Loc) (pb:List PS) (Q:Flow->Shared->Prop) (E:Value->Shared->Prop) (k i:Nat) (ρ':Loc) (as:AS) (hh:H) (s:Shared):Prop where
 post:aI I5 w C B fr (aG env) as₀ Im as hh s
 env_:aF C env ρ' as s.heap
 st_:St i as s.heap
 ends:ai I5 w C B (cN C P B env) fr (aG env) as₀ Im (fH nx st (exs P cf n pb) k i ρ' hh) Q E
theorem q9 {I:Addr} {Ch:Addr->Prop} {tg:Expr} {nx:Nat->H->Option (Option V)} {st:V->Loc->Option Loc} {St:Nat->AS->Heap->Prop} {b:List Stmt} {pb:List PS} {RI:AS->Heap->V->Value->Prop} {Q:Flow->Shared->Prop} (hA:A.frames=some fr) (SE:bP B fr env)
  (T:dz I5 w C B fr A I Ch tg nx St RI) (TG:gd I5 w C B fr A env tg st RI) (hb:rV I5 w C P B fr A env cf n b pb) {IS:H} (h00:aP I5 w C B fr as₀ IS Im) (Jb:aF C env ρ as₀ Im.heap) (dead:∀a,Ch a->Im.heap.get? a=none)
  {k i:Nat} {ρ':Loc} (V:tq I5 w C P B fr env cf n as₀ Im St nx st pb Q E k i ρ' as hh s):
  codeAny (model I5 w) A (.forLoop tg (.ref I) b [] env) (fun r s'=>match r with|.ok f=>Q f s'|.error e=>cameBackBy (model I5 w) A env E e s') s:=by
 have SB:iQ env Ch:=Jb.beside dead
 refine codeAny_forLoop_any (fun k s=>∃i ρ' as hh,tq I5 w C P B fr env cf n as₀ Im St nx st pb Q E k i ρ' as hh s) (fun k s hI=>?_) k ⟨i,ρ',as,hh,V⟩
 clear V
 obtain ⟨i,ρ',as,hh,p,N,S,h⟩:=hI
 have OW:=T.ownIt h00 dead p S
 rcases k with _|k
 ·exact h.elim
 ·refine xU fun K0 hK=>?_
  refine ai.opt h fun r hn h=>?_
  rcases r with _|v
  ·refine wpAny_mono (T.done i as hh s (fun s₁=>wpAny (model I5 w) A (execs [] env) (fun f s₃=>Q f s₃) (notedBy (model I5 w) A env fun e s'=>cameBackBy (model I5 w) A env E e s') s₁) _ p.here S hn fun h' tk k'=>?_) (fun r s₁ hr=>?_) fun Z Z q=>q
   ·have p':aI I5 w C B fr (fun a=>aG env a\/Ch a) as s as hh { s with heap:=h',toks:=tk }:=aI.but p.here OW k' rfl rfl
    exact wpAny_execs_nil (h as _ .next (p.under p' dead) ⟨.next,fun Z=>N.but SB OW.at_ k'⟩)
   ·exact hK _ _ (hr.1▸hr.2)
  ·refine ai.opt h fun ρ₁ hst h=>?_
   refine wpAny_mono (T.item i as hh s v (fun x s₁=>wpAny (model I5 w) A (assign tg env x) (fun Z I6=>wpAny (model I5 w) A (execs b env) (fun f s₃=>match f with
     |.next|.cont=>∃m,m < k+1/\∃i ρ' as hh,tq I5 w C P B fr env cf n as₀ Im St nx st pb Q E m i ρ' as hh s₃
     |.brk=>Q .next s₃
     |.ret v=>Q (.ret v) s₃) (notedBy (model I5 w) A env fun e s'=>cameBackBy (model I5 w) A env E e s') I6) (notedBy (model I5 w) A env fun e s'=>cameBackBy (model I5 w) A env E e s') s₁) _ p.here S hn fun x h' tk S' k' rv=>?_) (fun r s₁ hr=>?_) fun Z Z q=>q
   ·clear hK
    have N':aF C env ρ' as h':=N.but SB OW.at_ k'
    have Il:=p.under (aI.but (s':={ s with heap:=h',toks:=tk }) p.here OW k' rfl rfl) dead
    refine TG ρ' ρ₁ as hh { s with heap:=h',toks:=tk } v x _ _ Il.here N' rv hst fun I6 I7 Id=>?_
    have Jc:=T.post Il.here (N'.ownOK Il.rel) I7 S' SB.notOwn
    have IZ:=Il.trans I7
    refine xU fun K1 hK=>?_
    refine Sim.run I7.here (hb ρ₁ _ _ _ I7.here Id) ((ai.after h00 IZ h).noted hA SE) fun r Ir Ik s₃ f hm Ib rr Z=>?_
    have IT:=IZ.trans Ib
    have J0:=T.post I7.here (Id.ownOK I7.rel) Ib Jc SB.notOwn
    replace h:ai I5 w C B (cN C P B env) fr (aG env) as₀ Im (R.bd (exs P cf n pb ρ₁ hh) _) Q E:=h
    rw [hm] at h
    refine hK f s₃ ?_
    clear hK
    obtain ⟨fl,J1⟩:=r
    obtain ⟨rf,Ij⟩:=rr
    cases rf with
    |next=>exact ⟨k,HS k,i+1,J1,Ik,Ir,IT,Ij (fun v e=>nomatch e),J0,h⟩
    |cont=>exact ⟨k,HS k,i+1,J1,Ik,Ir,IT,Ij (fun v e=>nomatch e),J0,h⟩
    |ret rv=>exact h Ik s₃ _ IT ⟨.ret rv,Ij⟩
   ·obtain ⟨x,rfl,q⟩:=hr;exact hK _ _ q
theorem aj.owned {v:List V} {x:List Value} (R:bW I5 w C B as hh s.heap) (O:jB own as s.heap) (p:aI I5 w C B fr own as s as' hh' s') (h:aj as s.heap v x):aj as' s'.heap v x:=
 h.step R p.step fun a o ha g=>by
  obtain ⟨o',g',l⟩:=O.at_ a ha
  rw [g] at g';(injection g' with g';subst g');exact l
theorem l9 {x:Nat} {xs:List Nat} {ts:List Expr} (h:cJ C env.scope (x::xs) ts=true):∃y p ts',ts=.Name y p::ts'/\C.id y=some x/\(env.kindOf y=some .local\/env.kindOf y=some .cell)/\cJ C env.scope xs ts'=true:=by
 rcases ts with _|⟨t,ts'⟩
 ·injection h
 ·refine a7 h fun h1 h2=>?_
  obtain ⟨y,p,e,hi,hk⟩:=kG h1
  exact ⟨y,p,ts',by rw [e],hi,hk,h2⟩
theorem fj (SE:bP B fr env):∀{xs:List Nat} {ts:List Expr} {vs:List V} {ys:List Value} {ρ ρ₁:Loc} {hh:H} {as:AS} {s:Shared} {Q:Unit->Shared->Prop},cJ C env.scope xs ts=true->aE xs vs ρ=some ρ₁->
  aP I5 w C B fr as hh s->aF C env ρ as s.heap->aj as s.heap vs ys->(∀s',aI I5 w C B fr (aG env) as s as hh s'->aF C env ρ₁ as s'.heap->Q () s')->
  wpAny (model I5 w) A (assignInOrder ((assignEach ts env).map (·.2)) ys) Q E s
 |[],ts,vs,ys,ρ,ρ₁,hh,as,s,Q,hn,hs,h0,N,rv,hQ=>by
  rw [aL hn]
  rcases vs with _|_
  ·exact assignInOrder_nil (hQ s ⟨dh.refl ..,h0.R,h0.F,rfl,rfl⟩ (be hs▸N))
  ·exact aw hs
 |i::xs,ts,vs,ys,ρ,ρ₁,hh,as,s,Q,hn,hs,h0,N,rv,hQ=>by
  obtain ⟨x,p,ts',e,hi,hk,hr⟩:=l9 hn
  rw [e]
  rcases vs with _|⟨v,vs⟩
  ·exact aw hs
  ·obtain ⟨y,ys',e2,r1,r2⟩:=rv.inv
   rw [e2]
   show wpAny _ _ (assignInOrder (assign (.Name x p) env::(assignEach ts' env).map (·.2)) _) Q E s
   refine assignInOrder_cons (PySem.wpAny_assign_Name (dP h0 N SE hk hi r1 fun I6 I7 Id=>?_))
   exact fj SE hr hs I7.here Id (r2.owned h0.R (N.ownOK h0.R) I7) fun s₃ Ib Ij=>hQ s₃ (I7.trans Ib) Ij
theorem bl:∀{xs:List Nat} {vs:List V} {ρ ρ₁:Loc},aE xs vs ρ=some ρ₁->xs.length=vs.length
 |[],[],_,_,_=>rfl
 |[],_::_,_,_,h=>aw h
 |_::_,[],_,_,h=>aw h
 |_::xs,_::vs,_,_,h=>congrArg (·+1) (bl (xs:=xs) (vs:=vs) h)
theorem fm:∀{xs:List Nat} {ts:List Expr},cJ C env.scope xs ts=true->ts.length=xs.length/\(assignEach ts env).length=ts.length/\(assignEach ts env).findIdx? (·.1)=none
 |[],ts,h=>by rw [aL h];exact ⟨rfl,rfl,rfl⟩
 |x::xs,ts,h=>by
  obtain ⟨y,p,ts',e,_,_,hr⟩:=l9 h
  obtain ⟨e1,e2,e3⟩:=fm hr
  rw [e]
  refine ⟨congrArg (·+1) e1,congrArg (·+1) e2,?_⟩
  show List.findIdx? (·.1) ((false,assign (.Name y p) env)::assignEach ts' env)=none
  rw [List.findIdx?_cons,e3]
  rfl
theorem dq {h h':Heap} (k:Heap.ExtBut h.objs.size h h'):∀a o,h.get? a=some o->h'.get? a=some o:=fun a o e=>k a o (HO (Heap.lt_size e)) e
theorem aF.grow {h h':Heap} (N:aF C env ρ as h) (k:∀a o,h.get? a=some o->h'.get? a=some o):aF C env ρ as h':=N.but (Ch:=fun Z=>False) ⟨id,fun Z Z Z Z=>id⟩ (fun Z c=>c.elim) fun a o Z e=>k a o e
theorem i9 {ts:List Expr} {xs:List Nat} {k:Nat} {pos:Pos} (hA:A.handled=none) (SE:bP B fr env) (hn:cJ C env.scope xs ts=true):gd I5 w C B fr A env (.Tuple ts k pos) (oH xs false):=by
 intro ρ ρ₁ as hh s v x Q E h0 N rv hst hQ
 refine a8 (show (v.tup?.bind fun vs=>aE xs vs ρ)=some ρ₁ from hst) fun vs hv hs=>?_
 rw [V.tup_of hv] at rv
 obtain ⟨a,ys,e,tb,rb⟩:=rv.inv
 rw [e]
 have hl:=bl hs
 obtain ⟨l1,l2,l3⟩:=fm hn
 refine wpAny_assign_Tuple hA tb.to (by rw [l2,l1,hl];exact rb.length) l3 fun h' hk=>?_
 have p:=aI.grow (own:=aG env) (s':={ s with heap:=h' }) h0 (dq hk) rfl rfl
 have N':=N.grow (as:=as) (dq hk)
 exact fj (s:={ s with heap:=h' }) SE hn hs p.here N' ((am.mono' (as':=as) ⟨[],(th as).symm⟩ fun a o e Z=>dq hk a o e).2 rb) fun I6 I7 Id=>hQ I6 (p.trans I7) Id
theorem nW {x:Str} {i:Nat} {pos:Pos} (SE:bP B fr env) (hi:C.id x=some i) (hk:env.kindOf x=some .local\/env.kindOf x=some .cell):gd I5 w C B fr A env (.Name x pos) (oH [i] true):=fun ρ ρ₁ as hh s v z Q E h0 N rv hst hQ=>
 PySem.wpAny_assign_Name (dP h0 N SE hk hi rv fun s' p N'=>hQ s' p (be (show some ((i,v)::ρ)=some ρ₁ from hst)▸N'))
end
end
section
open W PyProof.Rows SeqAt
section
variable {I5:Program} {w:World} {C:CV} {P:PT} {K:Frag} {B:Heap} {fr:List Env} {own:Addr->Prop} {A:Around} {as as' as₀:AS} {s s' Im:Shared} {hh hh':H} {env:Env} {ρ:Loc} {cf:V->List V->PM V} {n:Nat} {E:Value->Shared->Prop}
theorem xY {tg it:Expr} {pit:PE} {xs:List Nat} {k:Bool} {b:List Stmt} {pb:List PS} {pos:Pos} (FX:aU C P B K) (hA:A.frames=some fr) (hH:A.handled=none) (SE:bP B fr env) (hs:∀x,foldedSetIterable it env x=pure x) (hit:∀ρ,bh I5 w C P B fr A env ρ cf it pit) (hb:rV I5 w C P B fr A env cf n b pb)
  (TG:gd I5 w C B fr A env tg (oH xs k)):ju I5 w C P B fr A env cf n (.For tg it b [] pos) (.for_ xs k pit pb):=by
 intro ρ as hh s h0 N Q E h
 refine wpAny_For (Sim.runE h0 (N.ownOK h0.R) (hit ρ as hh s h0 N) h fun v I9 I8 s₁ x Z p rv h=>ai.opt h fun all hi h=>?_) hs
 have Ii:=N.post h0.R p
 refine hF (tg:=tg) FX hH p.here rv hi _ _ fun I h' tk St T st k hI=>?_
 exact q9 hA SE T TG hb p.here Ii (fun a e=>e▸hI) ⟨aI.grow (s':={ s₁ with heap:=h',toks:=tk }) p.here k rfl rfl,Ii.grow k,st,h⟩
def RIz (as:AS) (h:Heap) (v:V) (x:Value):Prop:=∃u1 u2 y1 y2 T,v=.tup [u1,u2]/\x=.ref T/\IsPair h T y1 y2/\am as h u1 y1/\am as h u2 y2
theorem qH {ts:List Expr} {xs:List Nat} {k:Nat} {pos:Pos} (hA:A.handled=none) (SE:bP B fr env) (hn:cJ C env.scope xs ts=true):gd I5 w C B fr A env (.Tuple ts k pos) (oH xs false) RIz:=by
 intro ρ ρ₁ as hh s v x Q E h0 N rv hst hQ
 obtain ⟨u1,u2,y1,y2,T,e1,e2,hT,r1,r2⟩:=rv
 rw [e1] at hst
 have hs:aE xs [u1,u2] ρ=some ρ₁:=hst
 have hl:=bl hs
 obtain ⟨l1,l2,l3⟩:=fm hn
 have ht:s.heap.IsTuple T #[y1,y2]:=⟨_,hT,rfl,_,rfl⟩
 rw [e2]
 refine wpAny_assign_Tuple hA ht (by rw [l2,l1,hl];rfl) l3 fun h' hk=>?_
 have p:=aI.grow (own:=aG env) (s':={ s with heap:=h' }) h0 (dq hk) rfl rfl
 have N':=N.grow (as:=as) (dq hk)
 exact fj (s:={ s with heap:=h' }) SE hn hs p.here N' ((am.mono' (as':=as) ⟨[],(th as).symm⟩ fun a o e Z=>dq hk a o e).2 (.cons r1 (.cons r2 .nil))) fun I6 I7 Id=>hQ I6 (p.trans I7) Id
def ChZ (z TO i1 i2:Addr) (a:Addr):Prop:=a=z\/a=TO\/a=i1\/a=i2
structure StZ (m n:Nat) (z TI TO i1 i2:Addr) (p1 p2:Addr×Addr) (i:Nat) (as:AS) (h:Heap):Prop where
 r1:as[m]?=some p1
 r2:as[n]?=some p2
 zip:IsZip h z TI TO .none
 ti:IsPair h TI (.ref i1) (.ref i2)
 to:∃a b,IsPair h TO a b/\ku [a,b]=false
 i1:h.IsListIter i1 p1.1 i
 i2:h.IsListIter i2 p2.1 i
theorem F0 {h:Heap} {TO:Addr} {o:Obj} (x:∃a b,IsPair h TO a b/\ku [a,b]=false) (g:h.get? TO=some o):sm o:=by
 obtain ⟨a,b,g',q⟩:=x
 rw [show h.get? TO=_ from g'] at g
 (injection g with g;subst g)
 refine ⟨show Value.type "tuple" ≠ .type "list" by decide,show Value.type "tuple" ≠ .type "dict" by decide,nofun,gQ (T := "tuple") rfl (by decide),?_⟩
 rintro (⟨_,xs,_,d,q'⟩|⟨e,_⟩)
 ·cases d;exact nomatch q.symm.trans q'
 ·exact absurd (Value.type.inj e) (by decide)
theorem StZ.loose {m n:Nat} {z TI TO i1 i2:Addr} {p1 p2:Addr×Addr} {i:Nat} {h:Heap} (st:StZ m n z TI TO i1 i2 p1 p2 i as h) {a:Addr} (ha:ChZ z TO i1 i2 a):∃o,h.get? a=some o/\sm o:=by
 rcases ha with e|e|e|e
 ·rw [e];exact ⟨_,st.zip,cQ (T := "zip") rfl rfl (by decide)⟩
 ·rw [e]
  obtain ⟨_,_,g,_⟩:=st.to
  exact ⟨_,g,F0 st.to g⟩
 ·rw [e]
  obtain ⟨o,g,c,d⟩:=st.i1
  exact ⟨o,g,cQ c d (by decide)⟩
 ·rw [e]
  obtain ⟨o,g,c,d⟩:=st.i2
  exact ⟨o,g,cQ c d (by decide)⟩
theorem uQ {ts:List Expr} {k:Nat} {pos:Pos} {m n:Nat} {z TI TO i1 i2:Addr} {p1 p2:Addr×Addr} (hA:A.handled=none) (D:ZipApart z TI TO i1 i2 p1.1 p2.1):
  dz I5 w C B fr A z (ChZ z TO i1 i2) (.Tuple ts k pos) (d6 (.ref m) (.ref n)) (StZ m n z TI TO i1 i2 p1 p2) RIz where
 own_:=fun i as h st a ha=>st.loose ha
 move:=fun i as h as' h' st hx kp e=>by
  obtain ⟨r,er⟩:=hx
  have rf:∀{n:Nat} {p},as[n]?=some p->as'[n]?=some p:=fun {n p} e=>by
   obtain ⟨hn,_⟩:=List.getElem?_eq_some_iff.mp e
   rw [er,HK hn];exact e
  obtain ⟨a,b,g,q⟩:=st.to
  exact ⟨rf st.r1,rf st.r2,kp _ _ (.inl (.inl rfl)) st.zip,kp _ _ (.inr (.inl ⟨rfl,_,_,rfl,rfl⟩)) st.ti,⟨a,b,kp _ _ (.inl (.inr (.inl rfl))) g,q⟩,
   st.i1.at fun o e=>kp _ _ (.inl (.inr (.inr (.inl rfl)))) e,st.i2.at fun o e=>kp _ _ (.inl (.inr (.inr (.inr rfl)))) e⟩
 item:=fun i as hh s v Kx E h0 st hn hQ=>by
  refine a8 (show (bv hh m).bind _=_ from hn) fun xs hx hn=>?_
  refine a8 hn fun ys hy hn=>?_
  obtain ⟨-,xa,k1,g1,r1⟩:=h0.R.list st.r1 hx
  obtain ⟨-,ya,k2,g2,r2⟩:=h0.R.list st.r2 hy
  rcases ex:xs[i]? with _|c'
  ·rw [ex] at hn;cases hn
  ·rcases ey:ys[i]? with _|j'
   ·rw [ex,ey] at hn;cases hn
   ·rw [ex,ey] at hn
    refine a8 (show (c'.ref?.bind _)=_ from hn) fun c hc hn=>?_
    refine aW hn fun j hj hn=>?_
    rw [V.ref_of hc] at ex
    rw [V.int_of hj] at ey
    obtain ⟨x,hxa,rx⟩:=r1.look ex
    obtain ⟨y,hya,ry⟩:=r2.look ey
    rw [Array.getElem?_toList] at hxa hya
    obtain ⟨a,b,g,q⟩:=st.to
    have lt:∀{c o},s.heap.get? c=some o->s.heap.objs.size≠c:=fun e=>Nat.ne_of_gt (Heap.lt_size e)
    refine wpAny_pyNext_zip_item D st.zip st.ti g st.i1 st.i2 (au g1) (au g2) hxa hya fun h' a1 a2 a3 a4 a5 a6 hk=>⟨_,rfl,?_⟩
    refine wpAny_letOwnedTupleGo_zip (s:={ s with heap:=h' }) a1 fun h₂ Jd Iu=>?_
    have kp:∀c o,¬ChZ z TO i1 i2 c->s.heap.get? c=some o->h₂.get? c=some o:=fun c o nc e=>by
     have n1:c≠z:=fun q=>nc (.inl q)
     exact (Iu.2 c n1).trans (hk c o n1 (fun q=>nc (.inr (.inl q))) (fun q=>nc (.inr (.inr (.inl q)))) (fun q=>nc (.inr (.inr (.inr q)))) e)
    have mv:∀{u x},am as s.heap u x->am as h₂ u x:=fun r=>(am.mono' (as':=as) ⟨[],(th as).symm⟩ fun c o e sd=>kp c o (fun ch=>by
     obtain ⟨o',g',l⟩:=st.loose ch
     rw [e] at g';(injection g' with g';subst g')
     exact l.2.2.2.2 sd) e).1 r
    refine hQ _ h₂ s.toks ⟨st.r1,st.r2,Jd,?_,⟨x,y,Iu.extBut _ _ D.TOz a2,?_⟩,a3.extBut Iu.extBut D.i1z,a4.extBut Iu.extBut D.i2z⟩ kp ⟨_,_,x,y,_,(be hn).symm,rfl,Iu.extBut _ _ (lt st.zip) a5,mv rx,mv ry⟩
    ·exact Iu.extBut _ _ D.TIz (hk _ _ D.TIz D.TITO D.TIi1 D.TIi2 st.ti)
    ·obtain ⟨p,_,e1⟩:=rx.inv
     obtain ⟨t,e2⟩:=ry.inv
     rw [e1,e2]
     rfl
 done:=fun i as hh s Kd E h0 st hn hQ=>by
  refine a8 (show (bv hh m).bind _=_ from hn) fun xs hx hn=>?_
  refine a8 hn fun ys hy hn=>?_
  obtain ⟨-,xa,k1,g1,r1⟩:=h0.R.list st.r1 hx
  obtain ⟨-,ya,k2,g2,r2⟩:=h0.R.list st.r2 hy
  obtain ⟨a,b,g,q⟩:=st.to
  have none_:∀{xs:List V} {xa:Array Value},aj as s.heap xs xa.toList->xs[i]?=none->xa[i]?=none:=fun {xs xa} r e=>Array.getElem?_eq_none_iff.mpr ((show xs.length=xa.size from r.length)▸List.getElem?_eq_none_iff.mp e)
  have hend:xa[i]?=none\/ya[i]?=none:=by
   rcases ex:xs[i]? with _|c'
   ·exact .inl (none_ r1 ex)
   ·rcases ey:ys[i]? with _|j'
    ·exact .inr (none_ r2 ey)
    ·rw [ex,ey] at hn
     refine a8 (show (c'.ref?.bind _)=_ from hn) fun c hc hn=>?_
     refine aW hn fun j hj hn=>?_
     injection hn
  exact wpAny_pyNext_zip_end hA D st.zip st.ti g st.i1 st.i2 (au g1) (au g2) hend fun h' hk=>⟨rfl,hQ h' s.toks fun c o nc e=>hk c o (fun q=>nc (.inl q)) (fun q=>nc (.inr (.inl q))) (fun q=>nc (.inr (.inr (.inl q)))) (fun q=>nc (.inr (.inr (.inr q)))) e⟩
 self:=fun i as s Q E st q=>wpAny_pyIter_zip st.zip q
theorem AE {α:Type} {F:V->V->H->R α} {pp pq:PE}:((evs P cf [pp,pq] ρ hh).bd fun vs h=>bq (two vs) fun y=>F y.1 y.2 h)=((ev P cf pp ρ hh).bd fun v h=>(ev P cf pq ρ h).bd fun u h=>F v u h):=by
 show ((ev P cf pp ρ hh).bd _).bd _=(ev P cf pp ρ hh).bd _
 rcases ev P cf pp ρ hh with ⟨v,h3⟩|_|_
 ·show (((ev P cf pq ρ h3).bd _).bd _).bd _=(ev P cf pq ρ h3).bd _
  rcases ev P cf pq ρ h3 with _|_<;>rfl
 ·rfl
 ·rfl
theorem xe {f:Expr} (hf:∀ρ,bh I5 w C P B fr A env ρ cf f (.stat (.bt .zip))) (h0:aP I5 w C B fr as hh s) (N:aF C env ρ as s.heap) {Kx:Value->Shared->Prop} {E:Value->Shared->Prop} (h:∀as' s',aI I5 w C B fr ay as s as' hh s'->Kx (.type "zip") s'):wpAny (model I5 w) A (eval f env) Kx E s:=
 hf ρ as hh s h0 N _ _ fun as' s' x p rv=>(show x=.type "zip" from rv.inv)▸h as' s' p
theorem uY {ts:List Expr} {xs:List Nat} {k:Nat} {p0 zp cp:Pos} {z:Str} {p q:Expr} {pp pq:PE} {b:List Stmt} {pb:List PS} {pos:Pos} (hA:A.frames=some fr) (hH:A.handled=none) (SE:bP B fr env) (hl:cJ C env.scope xs ts=true) (hz:∀ρ,bh I5 w C P B fr A env ρ cf (.Name z zp) (.stat (.bt .zip)))
  (sp:dB p=true) (sq:dB q=true) (hp:∀ρ,bh I5 w C P B fr A env ρ cf p pp) (hq:∀ρ,bh I5 w C P B fr A env ρ cf q pq) (hb:rV I5 w C P B fr A env cf n b pb):ju I5 w C P B fr A env cf n (.For (.Tuple ts k p0) (.Call (.Name z zp) [p,q] [] cp) b [] pos) (.forZip xs pp pq pb):=by
 intro ρ as hh s h0 N Q E h
 have O:=N.ownOK h0.R
 refine wpAny_For ?_ (fun x=>rfl)
 show wpAny (model I5 w) A (do callWith cp (<-eval (.Name z zp) env) [] (backTo cp (starEach [p,q] env)) []) _ E s
 refine wpAny_bind (xe hz h0 N fun I8 s₁ Il=>?_)
 have Ii:=N.post h0.R Il
 have Je:=Ii.ownOK Il.rel
 replace h:=ai.after h0 (Il.lift O) h
 have h2:=h
 rw [show ex P cf n (.forZip xs pp pq pb) ρ hh=((ev P cf pp ρ hh).bd fun v h=>(ev P cf pq ρ h).bd fun u h=>fH (d6 v u) (oH xs false) (exs P cf n pb) 100000 0 ρ h) from rfl,<-AE (F:=fun v u h=>fH (d6 v u) (oH xs false) (exs P cf n pb) 100000 0 ρ h)] at h2
 refine df (.cons sp (hp ρ) (.cons sq (hq ρ) .nil)) (Sim.runE Il.here Je (cx (.cons sp (hp ρ) (.cons sq (hq ρ) .nil)) _ _ _ Il.here Ii) h2 fun vs Ig Ia I6 xs' hev I7 rv h=>⟨mC "zip",ai.opt h fun y hy h=>?_⟩)
 clear h2 hev
 have Id:=Ii.post Il.rel I7
 obtain ⟨x1,x2,ex,r1,r2⟩:=iS hy rv.1
 rw [ex]
 have both:∃m n xs ys,y.1=.ref m/\y.2=.ref n/\bv Ig m=some xs/\bv Ig n=some ys:=by
  refine ai.opt h fun r hn Z=>?_
  refine a8 hn fun m e1 hn=>?_
  refine a8 hn fun n' e2 hn=>?_
  refine a8 hn fun xs e3 hn=>?_
  refine a8 hn fun ys e4 hn=>?_
  exact ⟨m,n',xs,ys,V.ref_of e1,V.ref_of e2,e3,e4⟩
 obtain ⟨m,n',Jk,Jl,e1,e2,e3,e4⟩:=both
 rw [e1] at r1
 rw [e2] at r2
 rw [e1,e2] at h
 obtain ⟨q1,hq1,e5⟩:=r1.inv
 obtain ⟨q2,hq2,e6⟩:=r2.inv
 rw [e5,e6]
 obtain ⟨-,xa,k1,g1,_⟩:=I7.rel.list hq1 e3
 obtain ⟨-,ya,k2,g2,_⟩:=I7.rel.list hq2 e4
 refine call_zip_2 (au g1) (au g2) fun Ic z1 z2 z3 z4 z5 sz kp=>?_
 refine wpAny_pyIter_zip (s:={ I6 with heap:=Ic }) z1 ?_
 have lt1:q1.1 < I6.heap.objs.size:=Heap.lt_size g1
 have lt2:q2.1 < I6.heap.objs.size:=Heap.lt_size g2
 have D:ZipApart (I6.heap.objs.size+4) (I6.heap.objs.size+2) (I6.heap.objs.size+3) I6.heap.objs.size (I6.heap.objs.size+1) q1.1 q2.1:=by
  have far:∀{a k:Nat},a < I6.heap.objs.size->a≠I6.heap.objs.size+k:=fun h=>HO (Nat.lt_of_lt_of_le h (Nat.le_add_right _ _))
  constructor<;>first|exact far lt1|exact far lt2|exact (far lt1).symm|exact (far lt2).symm|exact HO lt1|exact HO lt2|exact (HO lt1).symm|exact (HO lt2).symm|(intro e;simp only [Addr] at e;omega)
 exact q9 hA SE (uQ (ts:=ts) (k:=k) (pos:=p0) (m:=m) (n:=n') hH D) (qH hH SE hl) hb I7.here Id (fun a e=>HW (by rcases e with e|e|e|e<;>(rw [e];first|exact Nat.le_add_right _ _|exact HM _)))
  ⟨aI.grow (s':={ I6 with heap:=Ic }) I7.here kp rfl rfl,Id.grow kp,⟨hq1,hq2,z1,z2,⟨_,_,z3,rfl⟩,z4,z5⟩,h⟩
theorem vG {I L D:Addr} {ysV:List V} {hhE:H} {y:Str} {i:Nat} {p0:Pos} {Q:Flow->Shared->Prop} (h0:aP I5 w C B fr as hh s) (N:aF C env ρ as s.heap) (SE:bP B fr env) (N3:fy s I L D) (F:j4 I5 w C B fr as s I L D ysV as' hhE s')
  (hk:env.kindOf y=some .local\/env.kindOf y=some .cell) (hi:C.id y=some i)
  (h:ai I5 w C B (cN C P B env) fr (aG env) as s (.ok (.next,(i,.ref hhE.length)::ρ) (hhE++[.list ysV])) Q E):
  wpAny (model I5 w) A (assign (.Name y p0) env (.ref D)) (fun Z s''=>∃m,s''.heap.Ns L m/\∀h',Heap.SameBut L s''.heap h'->Q .next { s'' with heap:=h' }) E s':=by
 obtain ⟨m,hns⟩:=F.ns
 obtain ⟨Ia,p5,rv5,e2⟩:=qh (tk:=s'.toks) h0 N3 F (Heap.SameBut.refl ..)
 have O:=N.ownOK h0.R
 have N5:=N.post h0.R p5
 have nb:B.get? L=none:=by
  rcases z:B.get? L with _|o
  ·rfl
  ·have:=h0.R.base _ _ z;rw [N3.l] at this;injection this
 have Loff:¬foot Ia L:=by
  intro f
  rw [e2] at f
  rcases bE.mp f with f|⟨q,hq,e⟩
  ·exact F.off.1 f
  ·obtain rfl:=List.mem_singleton.mp hq
   rcases e with e|e<;>exact N3.ld e
 have Lown:¬aG env L:=fun o=>by
  have:=O.alive o
  rw [N3.l] at this;injection this
 have Lfr:¬bc fr L:=h0.F.notNew N3.l
 refine PySem.wpAny_assign_Name (dP (s:=s') (as:=Ia) p5.here N5 SE hk hi rv5 fun I6 I7 Id=>?_)
 obtain ⟨oL,es,ep,gL,dL,rL⟩:=hns
 obtain ⟨slL,J2⟩:=I7.step.keepU gL Loff Lown fun vs q=>by rw [dL] at q;injection q
 refine ⟨m,⟨_,es,ep,J2,dL,rL⟩,fun Ic IO=>?_⟩
 have nsL:¬solid { oL with slots:=slL }:=by
  rintro (⟨_,_,_,d,_⟩|⟨_,_,d⟩)
  ·exact nomatch dL.symm.trans d
  ·exact nomatch dL.symm.trans d
 have kp:∀b o,¬(b=L)->I6.heap.get? b=some o->Ic.get? b=some o:=fun b o ne e=>(IO.2 b ne).trans e
 have OL:Own B fr (·=L) Ia I6.heap:=⟨fun a c=>c▸nb,fun a c=>c▸Loff,fun a c=>c▸⟨_,J2,nsL⟩,fun a c=>c▸Lfr⟩
 have Ib:aI I5 w C B fr (fun a=>aG env a\/a=L) Ia I6 Ia (hhE++[.list ysV]) { I6 with heap:=Ic }:=aI.but (s':={ I6 with heap:=Ic }) (own:=aG env) I7.here OL kp rfl rfl
 have Ip:=((p5.lift O).trans I7).under Ib (fun a e=>e▸N3.l)
 have SB:iQ env (·=L):=N.beside fun a e=>e▸N3.l
 exact h Ia _ .next Ip ⟨.next,fun Z=>Id.but SB OL.at_ kp⟩
theorem qS {elt iter:Expr} {ifs:List Expr} {x y:Str} {px py p0 pos:Pos} {sc':Scope} {i ix:Nat} {pi pe cP:PE} (FX:aU C P B K) (hA:A.handled=none) (SE:bP B fr env) (hid:C.id y=some i) (hk:env.kindOf y=some .local\/env.kindOf y=some .cell)
  (hx:C.id x=some ix) (hsc:eh C env.scope sc' x=true) (hs:∀x,foldedSetIterable iter env x=pure x) (hit:∀ρ,bh I5 w C P B fr A env ρ cf iter pi) (hE:∀cenv ρ',cenv.scope=dm sc' env.scope->bh I5 w C P B fr A cenv ρ' cf elt pe) (hT:∀cenv ρ',cenv.scope=dm sc' env.scope->iZ I5 w C P B fr A cf cenv ρ' ifs cP)
  (hsw:swapsWith (.ListComp elt [⟨.Name x px,iter,ifs,0⟩] sc' py) (some (.Name y p0)) pos.line env=pure true):ju I5 w C P B fr A env cf n (.Assign [.Name y p0] (.ListComp elt [⟨.Name x px,iter,ifs,0⟩] sc' py) pos) (.asg i (.comp pe ix pi cP)):=by
 intro ρ as hh s h0 N Q E h
 have S:=im hsc
 obtain ⟨cl,hclos,hcl,hcl2⟩:=kn (sc':=sc') (env:=env) fun y hy hf=>by
  obtain ⟨c,_,_,e,_⟩:=N.cellAt y.1 (S.free y hy hf).1
  exact ⟨c,e⟩
 rw [exec_Assign_Name_used _ _ _ _ hsw]
 refine wpAny_bind (wpAny_standAt (wpAny_bind ?_))
 show wpAny _ A (do let _ <-comprehension (.ListComp elt [⟨.Name x px,iter,ifs,0⟩] sc' py) sc' env _ (PySem.newList []) false (eval iter env) (some (assign (.Name y p0) env))) _ _ s
 refine wpAny_bind (wpAny_mono (wpAny_comprehension_free (Q:=fun Z s'=>Q .next s') (use:=some (assign (.Name y p0) env)) rfl hs hclos S.kind S.names ?_) (fun Z s' hq=>wpAny_pure (wpAny_pure hq)) fun Z Z e=>e)
 replace h:ai I5 w C B (cN C P B env) fr (aG env) as s ((ev P cf pi ρ hh).bd fun v I9=>(bq (items v I9) fun xs=>(noExc (bN (b5 (isL v I9) v xs) (dG P cf cP pe ix ρ) 100000 0 [] I9)).bd fun ys h=>newList ys h).bd fun v h=>R.ok (.next,(i,v)::ρ) h) Q E:=by
  revert h
  show ai _ _ _ _ _ _ _ _ _ (((ev P cf pi ρ hh).bd _).bd _) _ _->_
  rcases ev P cf pi ρ hh with _|_|_
  ·exact id
  ·exact id
  ·exact id
 refine Sim.runE h0 (N.ownOK h0.R) (hit ρ as hh s h0 N) h fun v I9 I8 s₁ xv Z p rv h=>?_
 rcases hi:items v I9 with _|xs
 ·rw [hi] at h;exact h.elim
 ·rw [hi] at h
  refine hF (tg:=.Name x px) FX hA p.here rv hi _ _ fun I h' tk St T st k hI=>?_
  replace h:ai I5 w C B (cN C P B env) fr (aG env) I8 s₁ (((noExc (bN (b5 (isL v I9) v xs) (dG P cf cP pe ix ρ) 100000 0 [] I9)).bd fun ys h=>newList ys h).bd fun v h=>R.ok (.next,(i,v)::ρ) h) Q E:=h
  rcases hg:bN (b5 (isL v I9) v xs) (dG P cf cP pe ix ρ) 100000 0 [] I9 with ⟨ysV,hhE⟩|_|_
  ·rw [hg] at h
   refine km (RR:=fun acc L=>compPost (model I5 w) A E (some (assign (.Name y p0) env)) (fun Z s'=>Q .next s') acc L) p.here (N.post h0.R p) S hx hcl hcl2 T st k hI (fun L v=>hE _ _ rfl) (fun L v=>hT _ _ rfl) hg fun D L as' s' N3 F=>?_
   replace h:ai I5 w C B (cN C P B env) fr (aG env) I8 s₁ ((ifR (decide (ysV.length<=100000)) (fw ysV hhE)).bd fun v h=>R.ok (.next,(i,v)::ρ) h) Q E:=h
   rcases hz:decide (ysV.length<=100000) with _|_
   ·rw [hz] at h;exact h.elim
   ·rw [hz] at h;exact vG p.here (N.post h0.R p) SE N3 F hk hid h
  ·rw [hg] at h;exact h.elim
  ·rw [hg] at h;exact h.elim
theorem qI (e:Expr) (x:Str) (p0:Pos) (l:Nat):isT (swapsWith e (some (.Name x p0)) l env=pure false) (gP e):=by rcases e with _|_<;>first|exact rfl|exact trivial
theorem qJ (elt:Expr) (g:List Comprehension) (sc':Scope) (py:Pos) (x:Str) (p0:Pos) (l:Nat):swapsWith (.ListComp elt g sc' py) (some (.Name x p0)) l env=pure true\/swapsWith (.ListComp elt g sc' py) (some (.Name x p0)) l env=pure false:=by
 show pure (env.blockKind==.function&&env.kindOf x==some .local&&p0.line==py.line&&!(sc'.names.any fun (n,k)=>n==x&&(k==.local||k==.cell)))=(pure true:Sem Bool)\/_
 rcases hb:(env.blockKind==.function&&env.kindOf x==some .local&&p0.line==py.line&&!(sc'.names.any fun (n,k)=>n==x&&(k==.local||k==.cell))) with _|_
 ·exact .inr (by show pure (env.blockKind==.function&&env.kindOf x==some .local&&p0.line==py.line&&!(sc'.names.any fun (n,k)=>n==x&&(k==.local||k==.cell)))=_;rw [hb])
 ·exact .inl rfl
end
end
section
open W PyProof.Rows
def gU (h:Heap) (c:Addr) (bm:List Value):Prop:=∃nm q N bs hdct sn sub ab col dd k0 k1 k2 k3 k5 newId,h.get? c=some (excClassObj nm q c N bs bm hdct sn sub ab col dd k0 k1 k2 k3 k5 newId)/\bm.contains (.type "BaseException")=true
def lZ (h:Heap) (c:Addr):Prop:=∃bm,gU h c bm
section
variable {M:Model} {A:Around} {E:Value->Shared->Prop} {env:Env}
theorem vf {s:Shared} {x:Sem Value} {Q:Flow->Shared->Prop} (hh:A.handled=none)
  (h:wpAny M A x (fun v s₁=>∃e c,v=.ref e/\lZ s₁.heap c/\n7 s₁.heap e c/\E (.ref e) s₁) E s):
  wpAny M A (raiseStmt env (some x) none) Q E s:=by
 unfold raiseStmt
 refine wpAny_bind (wpAny_mono h (fun v s₁ Ie=>?_) fun Z Z x=>x)
 obtain ⟨e,C,rfl,⟨bm,nm,q,N,bs,hdct,sn,sub,ab,col,dd,k0,k1,k2,k3,k5,newId,hC,hbase⟩,⟨⟨ocls,od,odata,osl⟩,vs,a0,he,hcls,hd,h0,h1⟩,hE⟩:=Ie
 simp only at hcls hd
 subst hcls hd
 have hcB:(Value.ref C::bm).contains (.type "BaseException")=true:=by rw [List.contains_cons,hbase,Bool.or_true]
 obtain ⟨hp,g,d,tk,os⟩:=s₁
 repeat (first|(with_reducible refine wpAny_field he rfl h1 ?_)|with_reducible refine wpAny_loadPart_at he ?_|with_reducible refine wpAny_loadPart_at hC ?_|(with_reducible refine wpAny_isSubtype_exc hC ?_;rw [hcB])|wp_step)
 exact wpAny_raiseNew_none hh hE
theorem jF {s:Shared} {e C D:Addr} {bm:List Value} {oe:Obj} {Q:Bool->Shared->Prop} (hC:gU s.heap C bm) (hD:lZ s.heap D) (he:s.heap.get? e=some oe) (hcls:oe.cls=.ref C)
  (hq:Q ((Value.ref C::bm).contains (.ref D)) s):wpAny M A (excMatches (.ref e) (.ref D)) Q E s:=by
 obtain ⟨nm,q,N,bs,hdct,sn,sub,ab,col,dd,k0,k1,k2,k3,k5,newId,hC,hbase⟩:=hC
 obtain ⟨bmD,nmD,qD,ND,bsD,hdctD,snD,subD,abD,colD,ddD,k0D,k1D,k2D,k3D,k5D,newIdD,hD,hbaseD⟩:=hD
 have hcB:(Value.ref D::bmD).contains (.type "BaseException")=true:=by rw [List.contains_cons,hbaseD,Bool.or_true]
 have f:=tc_notTuple
 obtain ⟨hp,g,d,tk,os⟩:=s
 unfold excMatches
 repeat (first|(with_reducible refine wpAny_loadPart_at he ?_;rw [hcls])|with_reducible refine wpAny_loadPart_at hD ?_|(with_reducible refine wpAny_isSubtype_exc hD ?_;rw [hcB])|(with_reducible refine wpAny_isSubtype_exc hC ?_)|wp_step)
 cases hb:(Value.ref C::bm).contains (.ref D)<;>(rw [hb] at hq;wp_walk;exact hq)
end
open PySem.SeqAt
section
variable {I5:Program} {w:World} {C:CV} {P:PT} {K:Frag} {B:Heap} {fr:List Env} {own:Addr->Prop} {A:Around} {as as' as₀:AS} {s s' Im:Shared} {hh hh':H} {env:Env} {ρ:Loc} {cf:V->List V->PM V} {n:Nat} {E:Value->Shared->Prop}
theorem aF.congr {h:Heap} {ρ ρ':Loc} (e:∀i,ρ'.lookup i=ρ.lookup i) (N:aF C env ρ as h):aF C env ρ' as h:=by
 obtain ⟨m,hn,hl⟩:=N.loc
 exact ⟨N.kind,N.glob,N.blt,N.off,⟨m,hn,fun y x v h1 h2 h3=>hl y x v h1 h2 ((e x)▸h3)⟩,fun y x v h1 h2 h3=>N.cell y x v h1 h2 ((e x)▸h3),N.cellAt,N.apart⟩
theorem b8 {i x:Nat} {v:V} {ρ:Loc} (h:i≠x):List.lookup i ((x,v)::ρ)=ρ.lookup i:=by rw [so,dO h]
theorem bj {x:Nat} {v:V} {ρ:Loc}:List.lookup x ((x,v)::ρ)=some v:=by rw [so,beq_self_eq_true]
theorem dg:∀{xs:List Nat} {vs:List V} {ρ ρ' ρ₁ IB:Loc},aE xs vs ρ=some ρ₁->aE xs vs ρ'=some IB->∀i,(i∈xs->ρ₁.lookup i=IB.lookup i)/\(i∉xs->ρ₁.lookup i=ρ.lookup i)/\(i∈xs\/ρ.lookup i=ρ'.lookup i->ρ₁.lookup i=IB.lookup i)
 |[],[],ρ,ρ',ρ₁,IB,h,h',i=>by
  rw [<-be h,<-be h']
  exact ⟨fun q=>(nomatch q),fun Z=>rfl,fun q=>q.resolve_left fun q=>nomatch q⟩
 |[],_::_,_,_,_,_,h,_,_=>aw h
 |_::_,[],_,_,_,_,h,_,_=>aw h
 |x::xs,v::vs,ρ,ρ',ρ₁,IB,h,h',i=>by
  obtain ⟨a,b,c⟩:=dg (xs:=xs) (vs:=vs) h h' i
  have key:i∈x::xs\/ρ.lookup i=ρ'.lookup i->ρ₁.lookup i=IB.lookup i:=fun q=>by
   by_cases hi:i∈xs
   ·exact a hi
   ·refine c (.inr ?_)
    by_cases hx:i=x
    ·rw [hx,bj,bj]
    ·rw [b8 hx,b8 hx]
     exact q.resolve_left fun q=>(List.mem_cons.mp q).elim hx hi
  refine ⟨fun q=>key (.inl q),fun q=>?_,key⟩
  rw [b fun hi=>q (List.mem_cons_of_mem _ hi),b8 (fun (e:i=x)=>q (by rw [e];exact List.mem_cons_self ..))]
theorem gz:∀{xs:List Nat} {vs:List V} {ρ ρ₁:Loc} {x:Nat} {v:V},aE xs vs ρ=some ρ₁->aE (xs++[x]) (vs++[v]) ρ=some ((x,v)::ρ₁)
 |[],[],_,_,_,_,h=>by rw [<-be h];rfl
 |[],_::_,_,_,_,_,h=>aw h
 |_::_,[],_,_,_,_,h=>aw h
 |_::xs,_::vs,_,_,_,_,h=>gz (xs:=xs) (vs:=vs) h
theorem fS:∀{xs:List Nat} {vs:List V} {ρ:Loc},xs.length=vs.length->∃IK,aE xs vs ρ=some IK
 |[],[],ρ,_=>⟨ρ,rfl⟩
 |[],_::_,_,h=>(by injection h)
 |_::_,[],_,h=>(by injection h)
 |_::xs,_::vs,_,h=>fS (xs:=xs) (vs:=vs) (Nat.succ.inj h)
theorem ie:∀{xs:List Nat} {vs:List V} {ρ ρ₁:Loc},xs.Nodup->aE xs vs ρ=some ρ₁->∃ρ',aE xs.reverse vs.reverse ρ=some ρ'/\∀i,ρ₁.lookup i=ρ'.lookup i
 |[],[],ρ,ρ₁,_,h=>⟨ρ₁,h,fun Z=>rfl⟩
 |[],_::_,_,_,_,h=>aw h
 |_::_,[],_,_,_,h=>aw h
 |x::xs,v::vs,ρ,ρ₁,nd,h=>by
  replace h:aE xs vs ((x,v)::ρ)=some ρ₁:=h
  obtain ⟨hx,nd⟩:=List.nodup_cons.mp nd
  obtain ⟨IK,h₂⟩:=fS (ρ:=ρ) (bl h)
  obtain ⟨ρ',e,hl⟩:=ie nd h₂
  refine ⟨(x,v)::ρ',by rw [List.reverse_cons,List.reverse_cons];exact gz e,fun i=>?_⟩
  obtain ⟨a,b,_⟩:=dg h h₂ i
  by_cases hi:i=x
  ·rw [hi] at b⊢
   rw [b hx,bj,bj]
  ·rw [b8 hi,<-hl i]
   by_cases hm:i∈xs
   ·exact a hm
   ·rw [b hm,b8 hi]
    exact ((dg h₂ h₂ i).2.1 hm).symm
theorem mi (SE:bP B fr env):∀{ns:List Str} {xs:List Nat} {vs:List V} {ys:List Value} {ρ ρ₁:Loc} {hh:H} {as:AS} {s:Shared} {Q:Unit->Shared->Prop},ns.map C.id=xs.map some->(∀y∈ns,env.kindOf y=some .local)->aE xs vs ρ=some ρ₁->
  aP I5 w C B fr as hh s->aF C env ρ as s.heap->aj as s.heap vs ys->(∀s',aI I5 w C B fr (aG env) as s as hh s'->aF C env ρ₁ as s'.heap->Q () s')->
  wpAny (model I5 w) A (assignInOrder (ns.map fun n=>bindName env n) ys) Q E s
 |[],xs,vs,ys,ρ,ρ₁,hh,as,s,Q,hn,hk,hs,h0,N,rv,hQ=>by
  rcases xs with _|⟨_,_⟩
  ·rcases vs with _|⟨_,_⟩
   ·exact assignInOrder_nil (hQ s ⟨dh.refl ..,h0.R,h0.F,rfl,rfl⟩ (be hs▸N))
   ·exact aw hs
  ·injection hn
 |y::ns,xs,vs,ys,ρ,ρ₁,hh,as,s,Q,hn,hk,hs,h0,N,rv,hQ=>by
  rcases xs with _|⟨i,xs⟩
  ·injection hn
  ·obtain ⟨hn1,hn2⟩:=List.cons.inj hn
   rcases vs with _|⟨v,vs⟩
   ·exact aw hs
   ·obtain ⟨z,ys',e,r1,r2⟩:=rv.inv
    rw [e,List.map_cons]
    refine assignInOrder_cons (wpAny_bindName (dP h0 N SE (.inl (hk y (.head _))) hn1 r1 fun I6 I7 Id=>?_))
    exact mi SE hn2 (fun z hz=>hk z (.tail _ hz)) hs I7.here Id (r2.owned h0.R (N.ownOK h0.R) I7) fun s₃ Ib Ij=>hQ s₃ (I7.trans Ib) Ij
noncomputable def iM (env:Env) (L:Nat):Expr->Option Str
 |.Name id pos=>if env.kindOf id==some .local&&pos.line==L then some id else none
 |_=>none
theorem ji {L:Nat} {x:Str} {p:Pos}:iM env L (.Name x p)=if (env.kindOf x==some .local&&p.line==L)=true then some x else none:=rfl
theorem pS {L:Nat}:∀{xs:List Nat} {ts:List Expr},cJ C env.scope xs ts=true->(ts.filterMap (iM env L)).length=ts.length->(ts.filterMap (iM env L)).map C.id=xs.map some/\∀y∈ts.filterMap (iM env L),env.kindOf y=some .local
 |[],ts,h,_=>by rw [aL h];exact ⟨rfl,fun y hy=>nomatch hy⟩
 |i::xs,ts,h,hl=>by
  obtain ⟨x,p,ts',e,hi,_,hr⟩:=l9 h
  rw [e] at hl⊢
  have le:=List.length_filterMap_le (iM env L) ts'
  by_cases hc:(env.kindOf x==some .local&&p.line==L)=true
  ·have hn:iM env L (.Name x p)=some x:=ji.trans (if_pos hc)
   rw [List.filterMap_cons_some hn] at hl⊢
   obtain ⟨e1,e2⟩:=pS hr (Nat.succ.inj hl)
   refine ⟨by rw [List.map_cons,List.map_cons,hi,e1],fun y hy=>?_⟩
   rcases List.mem_cons.mp hy with q|hy
   ·rw [q];exact eq_of_beq (aV hc).1
   ·exact e2 y hy
  ·rw [List.filterMap_cons_none (ji.trans (if_neg hc))] at hl
   rw [hl] at le
   exact absurd le (Nat.not_succ_le_self _)
theorem ik:∀{n:Nat} {l:List Str},l.length<=n->l.eraseDups.length<=l.length
 |_,[],_=>by simp
 |n+1,a::l,h=>by
  rw [List.eraseDups_cons]
  have h1:(l.filter fun b=>!b==a).length<=l.length:=List.length_filter_le ..
  have:=ik (n:=n) (l:=l.filter fun b=>!b==a) (by simp at h;omega)
  simp only [List.length_cons];omega
theorem dx:∀{l:List Str},l.eraseDups.length=l.length->l.Nodup
 |[],_=>List.nodup_nil
 |a::l,h=>by
  rw [List.eraseDups_cons] at h
  have h1:(l.filter fun b=>!b==a).length<=l.length:=List.length_filter_le ..
  have h2:=ik (n:=_) (HM (l.filter fun b=>!b==a).length)
  simp only [List.length_cons] at h
  have e:l.filter (fun b=>!b==a)=l:=(List.filter_sublist (p:=fun b=>!b==a) (l:=l)).eq_of_length (by omega)
  rw [e] at h
  refine List.nodup_cons.mpr ⟨fun hm=>?_,dx (by omega)⟩
  rw [<-e] at hm
  have:=(List.mem_filter.mp hm).2
  simp at this
theorem oU {α:Type} {c:Prop} [Decidable c] {x b:α} {R:Prop} (h:¬c->b=x\/R):(if c then x else b)=x\/R:=by
 by_cases q:c
 ·exact .inl (if_pos q)
 ·exact (h q).imp (fun e=>(if_neg q).trans e) id
theorem jf (ts vs:List Expr) (k kv:Nat) (p0 pv:Pos) (env:Env):swappedStores [.Tuple ts k p0] (.Tuple vs kv pv) env=pure none\/
  ∃ns:List Str,ns=ts.filterMap (fun
  |.Name id pos=>if env.kindOf id==some .local&&pos.line==(ts.head?.map (·.pos.line)).getD 0 then some id else none
  |_=>none)/\ns.length=ts.length/\ns.eraseDups.length=ns.length/\(eg (.Tuple vs kv pv)=false->swappedStores [.Tuple ts k p0] (.Tuple vs kv pv) env=pure (some ns)):=by
 refine oU fun h1=>oU fun h2=>oU fun h3=>oU fun h4=>.inr ?_
 obtain ⟨e1,e2⟩:=not_or.1 (fun q=>h3 (Bool.or_eq_true_iff.2 q))
 refine ⟨_,rfl,Decidable.not_not.1 fun q=>e1 (bne_iff_ne.2 q),Decidable.not_not.1 fun q=>e2 (bne_iff_ne.2 q),fun hc=>?_⟩
 have hc:(vs.all (constantsAlone 8)&&!vs.all (foldedForSure 8))=false:=hc
 have h5:¬(vs.all (constantsAlone 8))=true:=fun q=>by
  rw [q,eq_false_of_ne_true h4] at hc;injection hc
 exact ((((if_neg h1).trans (if_neg h2)).trans (if_neg h3)).trans (if_neg h4)).trans (if_neg h5)
set_option tactic.hygienic true in
theorem mP {o o2 v:Expr} {a a2:Str} {p1 p2 p0:Pos} {k:Nat}:swappedStores [.Tuple [.Attribute o a p1,.Attribute o2 a2 p2] k p0] v env=pure none:=by
 rcases v with _|_
 case Tuple vs kv pv=>
  rcases jf [.Attribute o a p1,.Attribute o2 a2 p2] vs k kv p0 pv env with h|⟨ns,h1,h2,_⟩
  ·exact h
  ·rw [h1] at h2;exact nomatch h2
 all_goals rfl
theorem qN {ts vs:List Expr} {k:Nat} {p0:Pos} {kv:Nat} {pv:Pos} {xs:List Nat} (hn:cJ C env.scope xs ts=true) (hc:eg (.Tuple vs kv pv)=false):
  swappedStores [.Tuple ts k p0] (.Tuple vs kv pv) env=pure none\/∃ns:List Str,swappedStores [.Tuple ts k p0] (.Tuple vs kv pv) env=pure (some ns)/\ns.map C.id=xs.map some/\xs.Nodup/\∀y∈ns,env.kindOf y=some .local:=by
 rcases jf ts vs k kv p0 pv env with h|⟨ns,h2,h3,h4,h⟩
 ·exact .inl h
 ·have h2':ns=ts.filterMap (iM env ((ts.head?.map (·.pos.line)).getD 0)):=h2.trans (congrArg (fun f=>List.filterMap f ts) (funext fun x=>by rcases x with _|_<;>rfl))
  have nd:=dx h4
  obtain ⟨e1,e2⟩:=pS (L:=(ts.head?.map (·.pos.line)).getD 0) hn (by rw [<-h2'];exact h3)
  rw [<-h2'] at e1 e2
  refine .inr ⟨ns,h hc,e1,?_,e2⟩
  have nd2:(xs.map some).Nodup:=by
   rw [<-e1]
   refine List.pairwise_map.mpr (List.Pairwise.imp_of_mem (fun {a b} ha hb hab heq=>?_) nd)
   have:C.id a∈xs.map some:=by rw [<-e1];exact List.mem_map_of_mem ha
   obtain ⟨i,_,hi⟩:=List.mem_map.mp this
   exact hab (CV.id_inj hi.symm (heq▸hi.symm))
  exact (List.pairwise_map.mp nd2).imp fun {a b} hab heq=>hab (by rw [heq])
theorem jm {a:Addr} {items:Array Value} {m:Nat} {Q:List Value->Shared->Prop} (hh:A.handled=none) (ht:s.heap.IsTuple a items) (hm:m=items.size)
  (hQ:∀h',Heap.ExtBut s.heap.objs.size s.heap h'->Q items.toList { s with heap:=h' }):wpAny (model I5 w) A (unpackItems (.ref a) m none) Q E s:=by
 subst hm;exact wpAny_unpackItems_tuple hh ht hQ
theorem mc (v:Expr) (t:Expr) (es:List Expr) (k:Nat) (p:Pos) (l:Nat):swapsWithSole [.Tuple es k p] v l env=pure false:=by rcases v with _|_<;>rfl
theorem nX (v:Expr) (es:List Expr) (k:Nat) (p:Pos):isT (swappedStores [.Tuple es k p] v env=pure none) (rT v).isNone:=by rcases v with _|_<;>first|exact rfl|exact trivial
theorem qT {ts:List Expr} {xs:List Nat} {k:Nat} {p0 pos:Pos} {v:Expr} {pv:PE} (hA:A.handled=none) (SE:bP B fr env) (hl:cJ C env.scope xs ts=true) (hv:(rT v).isNone=true) (he:∀ρ,bh I5 w C P B fr A env ρ cf v pv):
  ju I5 w C P B fr A env cf n (.Assign [.Tuple ts k p0] v pos) (.asgT xs pv):=by
 intro ρ as hh s h0 N Q E h
 refine Assign_Tuple (Sim.runE h0 (N.ownOK h0.R) (he ρ as hh s h0 N) h fun u I9 I8 s₁ x Z p rv h=>ai.opt h fun ρ₁ hs h=>?_) (mc v v ..) ((nX v ..).to hv)
 exact i9 hA SE hl ρ ρ₁ I8 I9 s₁ u x _ _ p.here (N.post h0.R p) rv hs fun I6 I7 Id=>ai.nextS (ai.after p.here I7 h) I7.here Id
theorem qV {ts vs:List Expr} {xs:List Nat} {ps:List PE} {k kv:Nat} {p0 pv pos:Pos} (hA:A.handled=none) (SE:bP B fr env) (hl:cJ C env.scope xs ts=true) (hc:eg (.Tuple vs kv pv)=false) (hz:vs.length<=1000) (H:∀ρ,dK I5 w C P B fr A env ρ cf vs ps):
  ju I5 w C P B fr A env cf n (.Assign [.Tuple ts k p0] (.Tuple vs kv pv) pos) (.asgD xs ps):=by
 intro ρ as hh s h0 N Q E h
 have hsw:swapsWithSole [.Tuple ts k p0] (.Tuple vs kv pv) pos.line env=pure false:=rfl
 have hev:∀{Q':Value->Shared->Prop},(∀us ys ρ₁ I8 I9 (s₁:Shared),aI I5 w C B fr ay as s I8 I9 s₁->aj I8 s₁.heap us ys->aE xs us ρ=some ρ₁->ai I5 w C B (cN C P B env) fr (aG env) I8 s₁ (.ok (.next,ρ₁) I9) Q E->
   Q' (.ref s₁.heap.objs.size) { s₁ with heap:=s₁.heap.push { cls:=.type "tuple",data:=.seq ys.toArray } })->wpAny (model I5 w) A (eval (.Tuple vs kv pv) env) Q' E s:=fun {Q'} hQ'=>by
  refine wpAny_Tuple_spliced (Sim.runE h0 (N.ownOK h0.R) (cx (H ρ) as hh s h0 N) h fun us I9 I8 s₁ ys hm p rv h=>⟨?_,?_⟩)
  ·rw [rv.2];exact aR (by omega)
  ·exact ai.opt h fun ρ₁ hs h=>hQ' us ys ρ₁ I8 I9 s₁ p rv.1 hs h
 obtain ⟨l1,l2,l3⟩:=fm hl
 have step:∀{I8 I9} {s₁:Shared} {ys:List Value} {h':Heap} {us:List V},aI I5 w C B fr ay as s I8 I9 s₁->aj I8 s₁.heap us ys->Heap.ExtBut (s₁.heap.push { cls:=.type "tuple",data:=.seq ys.toArray }).objs.size (s₁.heap.push { cls:=.type "tuple",data:=.seq ys.toArray }) h'->
   aI I5 w C B fr (aG env) I8 s₁ I8 I9 { s₁ with heap:=h' }/\aF C env ρ I8 h'/\aj I8 h' us ys:=fun {I8 I9 s₁ ys h' us} p rv hk'=>by
  have kp:∀a o,s₁.heap.get? a=some o->h'.get? a=some o:=fun a o e=>dq hk' a o (ak _ a o e)
  exact ⟨aI.grow (s':={ s₁ with heap:=h' }) p.here kp rfl rfl,(N.post h0.R p).grow kp,(am.mono' (as':=I8) ⟨[],(th I8).symm⟩ fun a o e Z=>kp a o e).2 rv⟩
 rcases qN hl hc with hst|⟨ns,hst,hns,nd,hk⟩
 ·refine Assign_Tuple (hev fun us ys ρ₁ I8 I9 s₁ p rv hs h=>?_) hsw hst
  have g:(s₁.heap.push { cls:=.type "tuple",data:=.seq ys.toArray }).IsTuple s₁.heap.objs.size ys.toArray:=⟨_,HU _ rfl,rfl,_,rfl⟩
  refine wpAny_assign_Tuple hA (s:={ s₁ with heap:=s₁.heap.push { cls:=.type "tuple",data:=.seq ys.toArray } }) g (by rw [l2,l1,bl hs];exact rv.length) l3 fun h' hk'=>?_
  obtain ⟨pg,Ng,rg⟩:=step p rv hk'
  exact fj (s:={ s₁ with heap:=h' }) SE hl hs pg.here Ng rg fun I6 I7 Id=>ai.nextS (ai.after p.here (pg.trans I7) h) I7.here Id
 ·refine Assign_Tuple_swapped (names:=ns) (hev fun us ys ρ₁ I8 I9 s₁ p rv hs h=>?_) hsw hst
  have hnl:ns.length=xs.length:=by rw [<-on (f:=C.id),hns,on]
  have g:(s₁.heap.push { cls:=.type "tuple",data:=.seq ys.toArray }).IsTuple s₁.heap.objs.size ys.toArray:=⟨_,HU _ rfl,rfl,_,rfl⟩
  refine jm (s:={ s₁ with heap:=s₁.heap.push { cls:=.type "tuple",data:=.seq ys.toArray } }) hA g (by rw [hnl,bl hs];exact rv.length) fun h' hk'=>?_
  obtain ⟨pg,Ng,rg⟩:=step p rv hk'
  obtain ⟨IK,Iu,hlook⟩:=ie nd hs
  exact mi (xs:=xs.reverse) (vs:=us.reverse) (ρ₁:=IK) (s:={ s₁ with heap:=h' }) SE (by rw [List.map_reverse,List.map_reverse,hns]) (fun y hy=>hk y (List.mem_reverse.mp hy)) Iu pg.here Ng rg.reverse
   fun I6 I7 Id=>ai.nextS (ai.after p.here (pg.trans I7) h) I7.here (Id.congr hlook)
end
end
section
open W PyProof.Rows SeqAt
section
variable {I5:Program} {w:World} {C:CV} {P:PT} {K:Frag} {B:Heap} {fr:List Env} {own:Addr->Prop} {A:Around} {as as' as₀:AS} {s s' s'' Im:Shared} {hh hh':H} {env:Env} {ρ:Loc} {cf:V->List V->PM V} {n:Nat} {E:Value->Shared->Prop}
theorem kq {M:Model} {o:Expr} {a:Str} {pos:Pos} {v:Value} {Q:Unit->Shared->Prop} (h:wpAny M A (eval o env) (fun ov I6=>wpAny M A (PySem.setAttr ov a v) (fun Z=>Q ()) E I6) E s):wpAny M A (assign (.Attribute o a pos) env v) Q E s:=by
 rw [PySem.assign_Attribute]
 exact wpAny_bind (wpAny_holding (wpAny_mono h (fun ov I6 h₂=>wpAny_bind (wpAny_standAt (wpAny_bind (wpAny_holding (wpAny_mono h₂ (fun Z Z Ic=>wpAny_release Ic) fun Z Z x=>x))))) fun Z Z x=>x))
theorem nZ {o o2:Expr} {po po2 pv:PE} {a a2:Str} {i i2:Nat} {p1 p2 p0 pos:Pos} {k:Nat} {v:Expr} (FX:aU C P B K) (hA:A.handled=none) (hi:C.id a=some i) (hj:C.id a2=some i2) (hv:∀ρ,bh I5 w C P B fr A env ρ cf v pv) (ho:∀ρ,bh I5 w C P B fr A env ρ cf o po) (ho2:∀ρ,bh I5 w C P B fr A env ρ cf o2 po2):
  ju I5 w C P B fr A env cf n (.Assign [.Tuple [.Attribute o a p1,.Attribute o2 a2 p2] k p0] v pos) (.asgTA po i po2 i2 pv):=by
 intro ρ as hh s h0 N Q E h
 refine Assign_Tuple (Sim.runE h0 (N.ownOK h0.R) (hv ρ as hh s h0 N) h fun u I9 I8 s₁ x Z p rv h=>ai.opt h fun q hq h=>?_) (mc v v ..) mP
 have Ii:=N.post h0.R p
 refine a8 hq fun us hu h2=>?_
 rw [V.tup_of hu,lQ h2] at rv
 obtain ⟨T,ys,e,tb,rb⟩:=rv.inv
 obtain ⟨y1,r1,e1,v1,rb⟩:=rb.inv
 obtain ⟨y2,r2,e2,v2,rb⟩:=rb.inv
 have e3:r2=[]:=rb.inv
 rw [e]
 rw [e1,e2,e3] at tb
 refine wpAny_assign_Tuple hA tb.to rfl rfl fun h' hk=>?_
 have kp:=dq hk
 have pg:=aI.grow (own:=aG env) (s':={ s₁ with heap:=h' }) p.here kp rfl rfl
 have hg:=ai.after p.here pg h
 have Ng:=Ii.grow (as:=I8) kp
 have mv:=am.mono' (as:=I8) (as':=I8) (h:=s₁.heap) (h':=h') ⟨[],(th I8).symm⟩ fun a o e Z=>kp a o e
 show wpAny _ _ (assignInOrder [assign (.Attribute o a p1) env,assign (.Attribute o2 a2 p2) env] _) _ E _
 refine assignInOrder_cons (kq (Sim.runE pg.here (Ng.ownOK (s:={ s₁ with heap:=h' }) pg.rel) (ho ρ _ _ _ pg.here Ng) hg fun w1 Ig Ia I6 x1 Z I7 rw1 h₂=>?_))
 have Id:=Ng.post (s:={ s₁ with heap:=h' }) pg.rel I7
 refine Sim.runE I7.here (Id.ownOK I7.rel) (fT FX I7.here rw1 ((mv.1 v1).post (s:={ s₁ with heap:=h' }) pg.rel I7) hi) h₂ fun Z Ir Ik s₃ Z Z Ib Z Ic=>?_
 have Ij:=Id.post I7.rel Ib
 refine assignInOrder_cons (kq (Sim.runE Ib.here (Ij.ownOK Ib.rel) (ho2 ρ _ _ _ Ib.here Ij) Ic fun w2 J9 Ja IP x2 Z Ip rw2 Iq=>?_))
 have IH:=Ij.post Ib.rel Ip
 refine Sim.runE Ip.here (IH.ownOK Ip.rel) (fT FX Ip.here rw2 ((((mv.1 v2).post (s:={ s₁ with heap:=h' }) pg.rel I7).post I7.rel Ib).post Ib.rel Ip) hj) Iq fun Z Jm Jn Jo Z Z IL Z IC=>?_
 exact assignInOrder_nil (ai.nextS IC IL.here (IH.post Ip.rel IL))
theorem ai.fst {α β α' β':Type} {RV:AS->Heap->α->β->Prop} {RV':AS->Heap->α'->β'->Prop} {m:R α} {f:α->H->R α'} {Q:β'->Shared->Prop} {E:Value->Shared->Prop} {Kx:β->Shared->Prop}
  (h0:aP I5 w C B fr as hh s) (O:jB own as s.heap) (h:ai I5 w C B RV' fr own as s (m.bd f) Q E)
  (h2:∀v hh' as' s' x,m=.ok v hh'->aI I5 w C B fr ay as s as' hh' s'->RV as' s'.heap v x->ai I5 w C B RV' fr own as' s' (f v hh') Q E->Kx x s'):ai I5 w C B RV fr ay as s m Kx E:=by
 rcases m with ⟨v,hh'⟩|⟨c,hh'⟩|_
 ·exact fun as' s' x p rv=>h2 v hh' as' s' x rfl p rv (ai.after h0 (p.lift O) h)
 ·exact fun s' ev e as' B' T=>h _ _ _ _ _ (T.lift O)
 ·exact h.elim
theorem B0 (hA:AOK A fr n) (CK:cj I5 w C B P cf n) (as:AS) (hh:H) (s:Shared) (v:V) (x:Value) (vs:List V) (xs:List Value) (h0:aP I5 w C B fr as hh s) (rv:am as s.heap v x) (rvs:aj as s.heap vs xs):gg I5 w C B P fr A as s x xs (gH cf v vs hh):=by
 rcases v with _|_<;>first|exact fun Q E h=>h.elim|exact CK A fr as hh s _ x vs xs hA h0 rv rvs
theorem xG (hA:AOK A fr n) (CK:cj I5 w C B P cf n) (as:AS) (hh:H) (s:Shared) (m:Mth) (v:V) (x:Value) (vs:List V) (xs:List Value) (i:Nat) (h0:aP I5 w C B fr as hh s) (rv:am as s.heap v x) (rvs:aj as s.heap vs xs):gg I5 w C B P fr A as s (vZ m i) (x::xs) (fZ cf m v vs hh):=by
 rcases m with f|_|_|_
 ·exact CK A fr as hh s (.fn _) (.ref _) (v::vs) (x::xs) hA h0 (.fn _) (.cons rv rvs)
 ·exact fun Q E h=>h.elim
 ·exact fun Q E h=>h.elim
 ·exact fun Q E h=>h.elim
theorem lj {α β γ:Type} (m:R α) (f:α->H->R β) (g:β->H->R γ):(m.bd f).bd g=m.bd fun a h=>(f a h).bd g:=by rcases m with _|_<;>rfl
theorem bd3 {α β γ δ:Type} (m:R α) (f:α->H->R β) (g:α->β->H->R γ) (k:γ->H->R δ):(m.bd fun a h=>(f a h).bd fun b h=>g a b h).bd k=m.bd fun a h=>(f a h).bd fun b h=>(g a b h).bd k:=
 (lj ..).trans (congrArg (R.bd m) (funext fun a=>funext fun h=>lj ..))
theorem bd4 {α β γ δ ε:Type} (m:R α) (f:α->H->R β) (g:α->β->H->R γ) (j:α->β->γ->H->R δ) (k:δ->H->R ε):(m.bd fun a h=>(f a h).bd fun b h=>(g a b h).bd fun c h=>j a b c h).bd k=m.bd fun a h=>(f a h).bd fun b h=>(g a b h).bd fun c h=>(j a b c h).bd k:=
 (lj ..).trans (congrArg (R.bd m) (funext fun a=>funext fun h=>bd3 ..))
section
variable {f:Str} {fp cp pos:Pos} {es:List Expr} {g:PE} {ps:List PE}
theorem qk {Q:Value->Shared->Prop} (hA:AOK A fr n) (CK:cj I5 w C B P cf n) (hg:bh I5 w C P B fr A env ρ cf (.Name f fp) g) (H:dK I5 w C P B fr A env ρ cf es ps) (h0:aP I5 w C B fr as hh s) (N:aF C env ρ as s.heap)
  (h:ai I5 w C B (jz P B) fr ay as s ((ev P cf g ρ hh).bd fun g h=>(evs P cf ps ρ h).bd fun vs h=>gH cf g vs h) Q E):
  wpAny (model I5 w) A (eval (.Call (.Name f fp) es [] cp) env) Q E s:=by
 show wpAny (model I5 w) A (do callWith cp (<-eval (.Name f fp) env) [] (backTo cp (starEach es env)) []) _ E s
 refine wpAny_bind (Sim.run h0 (hg as hh s h0 N) h fun v I9 I8 s₁ x Z p rv h=>?_)
 refine df H (Sim.run p.here (cx H _ _ _ p.here (N.post h0.R p)) h fun vs Ig Ia I6 xs Z I7 Ih h=>?_)
 exact B0 hA CK _ _ _ _ _ _ _ I7.here (rv.post p.rel I7) Ih.1 Q E h
theorem ze (hA:AOK A fr n) (CK:cj I5 w C B P cf n) (hg:∀ρ,bh I5 w C P B fr A env ρ cf (.Name f fp) g) (H:∀ρ,dK I5 w C P B fr A env ρ cf es ps) {k:Nat}:ju I5 w C P B fr A env cf k (.Return (some (.Call (.Name f fp) es [] cp)) pos) (.retX g ps):=by
 intro ρ as hh s h0 N Q E h
 replace h:ai I5 w C B (cN C P B env) fr (aG env) as s (((ev P cf g ρ hh).bd fun g h=>(evs P cf ps ρ h).bd fun vs h=>gH cf g vs h).bd fun v h=>.ok (.ret v,ρ) h) Q E:=by rw [bd3];exact h
 refine wpAny_Return_some (qk hA CK (hg ρ) (H ρ) h0 N (ai.fst h0 (N.ownOK h0.R) h fun v I9 I8 s₁ x Z p rv h=>?_))
 exact ai.now h p.here ⟨.ret rv,fun Z=>N.post h0.R p⟩
end
noncomputable def less:List Addr->Heap->Heap
 |[],h=>h
 |a::l,h=>(less l h).update a fun o=>{ o with data:=.freed }
theorem vw {h:Heap} {a:Addr}:(h.update a fun o=>{ o with data:=.freed }).get? a=none:=by
 obtain ⟨objs,life⟩:=h
 unfold Heap.update Heap.get?
 rw [Array.getElem?_modify,if_pos rfl]
 rcases objs[a]? with _|_<;>rfl
theorem pX {h:Heap} {b:Addr}:∀{l:List Addr},(less l h).get? b=if b∈l then none else h.get? b
 |[]=>(if_neg List.not_mem_nil).symm
 |a::l=>by
  show ((less l h).update a _).get? b=_
  by_cases e:b=a
  ·subst e;rw [vw];simp
  ·rw [Heap.get?_update_other _ _ (Ne.symm e),pX (l:=l)]
   simp [e]
theorem fD {h h':Heap}:∀{l:List Env},h.FunFrames B l->(∀L∈l.filterMap (·.frame),h'.get? L=none)->h.FunFrames h' l
 |[],_,_=>trivial
 |env::l,⟨hk,⟨L,o,hf,hn,ho,hd⟩,hr⟩,k=>by
  rw [List.filterMap_cons,hf] at k
  exact ⟨hk,⟨L,o,hf,k L (.head _),ho,hd⟩,fD hr fun L' hL=>k L' (.tail _ hL)⟩
theorem bn.start {c a:Addr} (h0:aP I5 w C B fr as hh s) (no:¬own a) (hx:n7 s.heap a c) (hB:B.get? a=none):bn I5 w C B fr own as s c hh s (.ref a) a as (less (a::fr.filterMap (·.frame)) s.heap):=by
 have lk:∀b,(less (a::fr.filterMap (·.frame)) s.heap).get? b=if b∈a::fr.filterMap (·.frame) then none else s.heap.get? b:=fun b=>pX
 have isF:∀b,b∈fr.filterMap (·.frame)↔bc fr b:=fun b=>by
  rw [List.mem_filterMap];exact Iff.rfl
 have keep:∀b o,¬(b∈a::fr.filterMap (·.frame))->s.heap.get? b=some o->(less (a::fr.filterMap (·.frame)) s.heap).get? b=some o:=fun b o n e=>by rw [lk,if_neg n];exact e
 obtain ⟨oe,vs,a0,he,hc,hd,e0,e1⟩:=id hx
 have aoff:¬foot as a:=h0.R.off he (by rw [hc];intro e;injection e) (by rw [hc];intro e;injection e) (by rw [hd];intro e;injection e)
 have O:Own B [] (fun b=>b∈a::fr.filterMap (·.frame)) as s.heap:=by
  refine ⟨fun b c=>?_,fun b c=>?_,fun b c=>?_,fun b _ ⟨_,he,_⟩=>nomatch he⟩
  ·rcases List.mem_cons.mp c with rfl|c
   ·exact hB
   ·exact (h0.F.1.mem c).1
  ·rcases List.mem_cons.mp c with rfl|c
   ·exact aoff
   ·exact h0.R.frame_off h0.F ((isF b).mp c)
  ·rcases List.mem_cons.mp c with rfl|c
   ·refine ⟨oe,he,?_⟩
    rintro (⟨q,_⟩|⟨q,_⟩)<;>rw [hc] at q<;>injection q
   ·obtain ⟨o,g,cl,_⟩:=h0.F.frame_alive ((isF b).mp c)
    refine ⟨o,g,?_⟩
    rintro (⟨q,_⟩|⟨q,_⟩)<;>rw [cl] at q<;>injection q with q<;>revert q<;>decide
 refine ⟨rfl,fun b o e=>?_,?_,fD h0.F.1 fun L hL=>?_,.inl hx,⟨⟨[],(th as).symm,fun Z hp=>nomatch hp⟩,fun b o e Z no Z=>⟨o,keep b o (fun m=>no ?_) e,.refl o⟩,fun b e no=>?_,fun b no=>.keep fun o e=>keep b o (fun m=>no ?_) e⟩,h0.R.but O keep,h0.F.2,fun o g=>?_,no,fun L o hL g Z=>⟨o.slots,g⟩,rfl,rfl⟩
 ·rw [lk] at e
  split at e
  ·injection e
  ·exact e
 ·rw [lk,if_pos (List.mem_cons_self ..)]
 ·rw [lk,if_pos (List.mem_cons_of_mem _ hL)]
 ·rcases List.mem_cons.mp m with m|m
  ·exact .inr (.inr m)
  ·exact .inr (.inl ((isF b).mp m))
 ·obtain ⟨o,g⟩:=Option.isSome_iff_exists.mp e
  rw [keep b o (fun m=>no (by
   rcases List.mem_cons.mp m with m|m
   ·exact .inr (.inr m)
   ·exact .inr (.inl ((isF b).mp m)))) g];rfl
 ·rcases List.mem_cons.mp m with m|m
  ·exact .inr (.inr m)
  ·exact .inr (.inl ((isF b).mp m))
 ·rw [he] at g;(injection g with g;subst g);exact ⟨⟨_,hc⟩,vs,hd⟩
def bx (P:PT) (B:Heap):Prop:=∀c,isX P c=true->∃bm,gU B c bm/\∀D,isX P D=true->bm.contains (.ref D)=false
theorem yu {P:PT} {c:Addr} {ci:iK} (h:P.cl.lookup c=some ci) (e:ci.exc=true):isX P c=true:=by unfold isX;rw [h];exact e
theorem gU.keeps {h h':Heap} {c:Addr} {bm:List Value} (x:gU h c bm) (k:∀a o,h.get? a=some o->h'.get? a=some o):gU h' c bm:=by
 obtain ⟨nm,q,N,bs,hdct,sn,sub,ab,col,dd,k0,k1,k2,k3,k5,newId,hC,hb⟩:=x
 exact ⟨nm,q,N,bs,hdct,sn,sub,ab,col,dd,k0,k1,k2,k3,k5,newId,k _ _ hC,hb⟩
theorem eX {M:Model} {x:Expr} {pos:Pos} {Q:Flow->Shared->Prop} (hh:A.handled=none)
  (h:wpAny M A (eval x env) (fun v s₁=>∃e c,v=.ref e/\lZ s₁.heap c/\n7 s₁.heap e c/\E (.ref e) s₁) E s):wpAny M A (exec (.Raise (some x) none pos) env) Q E s:=by
 show wpAny M A (do standAt pos;raiseStmt env (some (do let v <-eval x env;standAt pos;pure v)) none) Q E s
 exact wpAny_bind (wpAny_standAt (vf hh (wpAny_bind (wpAny_mono h (fun v s₁ Ie=>wpAny_bind (wpAny_standAt (wpAny_pure Ie))) fun Z Z x=>x))))
theorem my {v:V} {x:Value} {Q:Flow->Shared->Prop} (XF:bx P B) (O:jB own as s.heap) (h0:aP I5 w C B fr as hh s) (rv:jz P B as s.heap v x)
  (h:ai I5 w C B (cN C P B env) fr own as s (yO v hh) Q E):∃e c,x=.ref e/\lZ s.heap c/\n7 s.heap e c/\E (.ref e) s:=by
 rcases rv with rv|⟨c,a,ci,e1,e2,hx,hB,hc,hce⟩
 ·replace rv:=rv.inv
  rcases v with _|_<;>first|exact h.elim|exact rv.elim
 ·rw [e1] at h
  obtain ⟨bm,hX,_⟩:=XF c (yu hc hce)
  exact ⟨a,c,e2,⟨bm,hX.keeps h0.R.base⟩,hx,h _ _ _ _ _ (bn.start h0 (fun q=>by
   obtain ⟨o,vs,a0,g,c1,d,_⟩:=hx
   exact O.noExc _ o q g ⟨⟨_,c1⟩,vs,d⟩) hx hB)⟩
theorem uX {f:Str} {fp cp pos:Pos} {es:List Expr} {g:PE} {ps:List PE} {k:Nat} (XF:bx P B) (hA:AOK A fr n) (CK:cj I5 w C B P cf n) (hg:∀ρ,bh I5 w C P B fr A env ρ cf (.Name f fp) g) (H:∀ρ,dK I5 w C P B fr A env ρ cf es ps):ju I5 w C P B fr A env cf k (.Raise (some (.Call (.Name f fp) es [] cp)) none pos) (.raiseC g ps):=by
 intro ρ as hh s h0 N Q E h
 replace h:ai I5 w C B (cN C P B env) fr (aG env) as s (((ev P cf g ρ hh).bd fun g h=>(evs P cf ps ρ h).bd fun vs h=>gH cf g vs h).bd yO) Q E:=by rw [bd3];exact h
 exact eX hA.handled (qk hA CK (hg ρ) (H ρ) h0 N (ai.fst h0 (N.ownOK h0.R) h fun v I9 I8 s₁ x Z p rv h=>my XF ((N.post h0.R p).ownOK p.rel) p.here rv h))
theorem uW {o:Expr} {po:PE} {a:Str} {i:Nat} {ap cp pos:Pos} {es:List Expr} {ps:List PE} {k:Nat} (FX:aU C P B K) (XF:bx P B) (hA:AOK A fr n) (CK:cj I5 w C B P cf n) (hi:C.id a=some i) (hz:(eM o&&ap.endLine==cp.line&&decide (es.length < 30))=true)
  (ho:∀ρ,bh I5 w C P B fr A env ρ cf o po) (H:∀ρ,dK I5 w C P B fr A env ρ cf es ps):ju I5 w C P B fr A env cf k (.Raise (some (.Call (.Attribute o a ap) es [] cp)) none pos) (.raiseM po i ps):=by
 intro ρ as hh s h0 N Q E h
 replace h:ai I5 w C B (cN C P B env) fr (aG env) as s (((ev P cf po ρ hh).bd fun v h=>(jt P v i h).bd fun m h=>(evs P cf ps ρ h).bd fun vs h=>fZ cf m v vs h).bd yO) Q E:=by rw [bd4];exact h
 exact eX hA.handled (pU (RV:=jz P B) (g:=fun m v vs=>fZ cf m v vs) FX (ho ρ) (H ρ) (fun as hh s m v x vs xs h0 rv rvs=>xG hA CK as hh s m v x vs xs i h0 rv rvs) hi hz h0 N
  (ai.fst h0 (N.ownOK h0.R) h fun v I9 I8 s₁ x Z p rv h=>my XF ((N.post h0.R p).ownOK p.rel) p.here rv h))
end
end
section
open W PyProof.Rows SeqAt
section
variable {I5:Program} {w:World} {C:CV} {P:PT} {K:Frag} {B:Heap} {fr:List Env} {own:Addr->Prop} {A:Around} {as as' as₀:AS} {s s' s'' Im:Shared} {hh hh':H} {env:Env} {ρ:Loc} {cf:V->List V->PM V} {n:Nat} {E:Value->Shared->Prop}
theorem gE {h h':Heap}:∀{l:List Env},(∀e∈l,∀L,e.frame=some L->∀o,h.get? L=some o->(∀vs,o.data≠.fields vs)->∃o',h'.get? L=some o'/\o'.data=o.data)->h.FunFrames B l->h'.FunFrames B l
 |[],_,_=>trivial
 |e::l,k,⟨hk,⟨L,ob,hf,hb,g,d⟩,r⟩=>by
  obtain ⟨o',g',d'⟩:=k e (.head _) L hf ob g d
  exact ⟨hk,⟨L,o',hf,hb,g',fun vs q=>d vs (d'▸q)⟩,gE (fun e' he=>k e' (.tail _ he)) r⟩
theorem bn.caught {c:Addr} {ev:Value} {e:Addr} {B':Heap} (h0:aP I5 w C B fr as hh s) (T:bn I5 w C B fr own as s c hh' s' ev e as' B') (k1:B'.StaysIn s''.heap)
  (k2:∀b o,s'.heap.get? b=some o->(∀vs,o.data≠.fields vs)->s''.heap.get? b=some o) (k3:(s''.heap.get? e).isSome=true) (hg:s''.gens=s'.gens) (ho:s''.os=s'.os):aI I5 w C B fr own as s as' hh' s'':=by
 have frm:∀a,bc fr a->∀o,s.heap.get? a=some o->¬own a->o.cls=.type "frame" /\ ∃sl,s''.heap.get? a=some { o with slots:=sl }:=fun a hf o g no=>by
  obtain ⟨o',g',cl,d⟩:=h0.F.frame_alive hf
  rw [g] at g';(injection g' with g';subst g')
  obtain ⟨sl,IA⟩:=T.slots a o hf g no
  exact ⟨cl,sl,k2 _ _ IA d⟩
 have off:∀{a},¬bc fr a->¬own a->a≠e->¬(own a\/bc fr a\/a=e):=fun h1 h2 h3 q=>by
  rcases q with q|q|q
  ·exact h2 q
  ·exact h1 q
  ·exact h3 q
 obtain ⟨r,er,hr⟩:=T.step.ext
 refine ⟨⟨⟨r,er,fun p hp=>⟨(hr p hp).1,fun q=>(hr p hp).2.1 (.inl q),fun q=>(hr p hp).2.2 (.inl q)⟩⟩,fun a o g nf no hx=>?_,fun a g no=>?_,fun a no=>?_⟩,T.rel.grow k1,⟨?_,fun env he=>?_⟩,hg.trans T.gens,ho.trans T.os⟩
 ·by_cases hf:bc fr a
  ·obtain ⟨cl,sl,Io⟩:=frm a hf o g no
   exact ⟨_,Io,⟨sl,rfl⟩,fun q=>absurd cl q⟩
  ·by_cases ha:a=e
   ·exact absurd (T.was o (ha▸g)) hx
   ·obtain ⟨o',g',H⟩:=T.step.keep a o g nf (off hf no ha) hx
    exact ⟨o',k1 _ _ g',H⟩
 ·obtain ⟨o,g'⟩:=Option.isSome_iff_exists.mp g
  by_cases hf:bc fr a
  ·obtain ⟨_,sl,Io⟩:=frm a hf o g' no
   rw [Io];rfl
  ·by_cases ha:a=e
   ·rw [ha];exact k3
   ·obtain ⟨o',Io⟩:=Option.isSome_iff_exists.mp (T.step.live a g (off hf no ha))
    rw [k1 _ _ Io];rfl
 ·rcases z:s.heap.get? a with _|o
  ·exact .none z
  ·by_cases hf:bc fr a
   ·obtain ⟨cl,_⟩:=frm a hf o z no
    exact .other z (by rw [cl];intro q;injection q with q;revert q;decide)
   ·by_cases ha:a=e
    ·obtain ⟨⟨c',q⟩,_⟩:=T.was o (ha▸z)
     exact .other z (by rw [q];intro q;injection q)
    ·exact (T.step.eps a (off hf no ha)).trans (.keep fun o g=>k1 _ _ g)
 ·have F':s''.heap.FunFrames B' fr:=gE (fun e he L hL o g d=>⟨o,k2 _ _ g d,rfl⟩) T.frames
  have base:∀{l:List Env},(∀e∈l,e∈fr)->s''.heap.FunFrames B' l->s''.heap.FunFrames B l:=by
   intro l
   induction l with
   |nil=>intro _ _;trivial
   |cons x l ih=>
    rintro hl ⟨hk,⟨L,ob,hf,hb,g,d⟩,r⟩
    exact ⟨hk,⟨L,ob,hf,(h0.F.1.mem (List.mem_filterMap.mpr ⟨x,hl x (.head _),hf⟩)).1,g,d⟩,ih (fun e' he=>hl e' (.tail _ he)) r⟩
  exact base (fun Z h=>h) F'
 ·obtain ⟨L,o,hL,g,cl⟩:=T.frs env he
  obtain ⟨_,o',g',d⟩:=T.frames.mem (List.mem_filterMap.mpr ⟨env,he,hL⟩)
  rw [g] at g';(injection g' with g';subst g')
  exact ⟨L,o,hL,k2 _ _ g d,cl⟩
structure tm (B':Heap) (fr:List Env) (e c:Addr) (a0:Value) (h:Heap):Prop where
 stays:B'.StaysIn h
 frames:h.FunFrames B' fr
 traced:h.TracedW B' e (.ref c) a0
theorem cM {M:Model} {B':Heap} {e c:Addr} {a0 fl:Value} {Q:Unit->Shared->Prop} (h1:B'.StaysIn s.heap) (h2:s.heap.FunFrames B' fr) (h3:s.heap.TracedAtW B' e (.ref c) a0 fl)
  (h:∀h',tm B' fr e c a0 h'->(∀b o,s.heap.get? b=some o->(∀vs,o.data≠.fields vs)->h'.get? b=some o)->Q () { s with heap:=h' }):wpAny M A (setFlight (.ref e) none) Q E s:=
 wpAny_setFlight_noneW h1 h2 h3 fun h' k1 k2 k3 k4=>h h' ⟨k1,k2,k3⟩ k4
theorem vp {c:Addr} (XF:bx P B) (h:isX P c=true):lZ B c:=by obtain ⟨bm,hX,_⟩:=XF c h;exact ⟨bm,hX⟩
theorem vv {q:Addr×List Nat} {hd:ExceptHandler} (h:yz C env.scope q hd=true):∃x p z k p1 p2 pos,hd=.ExceptHandler (some (.Name x p)) none [.Return (some (.Constant (.str z) k p1)) p2] pos/\env.scope.names.lookup x=some .globalImplicit/\C.gl.lookup x=some (.cls q.1)/\z=ah q.2:=by
 refine ac h fun t ht h=>?_
 refine a7 h fun h h3=>?_
 refine a7 h fun h1 h2=>?_
 refine ac h2 fun v hv h2=>?_
 obtain ⟨p,k,p1,p2,pos,e⟩:=wr ht
 exact ⟨t.x,p,t.t,k,p1,p2,pos,e,eq_of_beq h1,hv.trans (congrArg some (sY _ v h2)),by rw [<-eq_of_beq h3]⟩
theorem ig {e c:Addr} {a0:Value} {B':Heap} {t:List Nat} {Q:Flow->Shared->Prop} (FX:aU C P B K) (XF:bx P B) (hkind:env.scope.kind=.function) (hglob:env.globals=mainGlobals) (hblt:env.builtins=builtinsNs) (hc:isX P c=true) (hB:∀a o,B.get? a=some o->B'.get? a=some o):
  ∀{l:List (Addr×List Nat)} {hs:List ExceptHandler} {s:Shared},iA C env.scope l hs=true->exh P c l=some t->tm B' fr e c a0 s.heap->
   (∀(I6:Shared) tok,tm B' fr e c a0 I6.heap->(∀b o,s.heap.get? b=some o->(∀vs,o.data≠.fields vs)->I6.heap.get? b=some o)->I6.gens=s.gens->I6.os=s.os->Q (.ret (.str (ah t) tok)) I6)->
   wpAny (model I5 w) A (handleBy (.ref e) env hs) Q E s
 |[],_,_,_,hex,_,_=>aw hex
 |q::l,[],_,hcv,_,_,_=>nomatch hcv
 |q::l,hd::hs,s,hcv,hex,H,hQ=>by
  refine a7 hcv fun h1 h2=>?_
  refine aJ hex fun hD hex=>?_
  obtain ⟨x,p,z,kk,cp,rp,hp,e0,h1,hg,ez⟩:=vv h1
  rw [e0,ez]
  refine wpAny_handleBy_cons (codeAny_handlers_test ?_) (by intro q;injection q)
  obtain ⟨mg,mb,G,Bl,hgl⟩:=FX.glob
  obtain ⟨hdb,z',hz,rv⟩:=hgl x (.cls q.1) hg
  rw [rv.inv] at hz
  have kB:∀b o,B.get? b=some o->s.heap.get? b=some o:=fun b o g=>H.stays _ _ (hB _ _ g)
  have G':s.heap.Ns env.globals mg:=by rw [hglob];exact G.keeps kB
  have B2:s.heap.Ns env.builtins mb:=by rw [hblt];exact Bl.keeps kB
  have go:wpAny (model I5 w) (A.mark (some (.ref e))) (excMatches (.ref e) (.ref q.1)) (fun b I6=>(match (Except.ok (if b then Flow.brk else Flow.next):Result) with
    |.ok .brk=>codeAny (model I5 w) (A.mark (some (.ref e))) (.handlers (.ref e) [.ExceptHandler none none [.Return (some (.Constant (.str (ah q.2)) kk cp)) rp] hp] env) (fun r I6=>match r with
      |.ok f=>Q f I6
      |.error x=>cameBackBy (model I5 w) A env E x I6) I6
    |.ok _=>wpAny (model I5 w) A (handleBy (.ref e) env hs) Q E I6
    |.error x=>cameBackBy (model I5 w) A env E x I6)) (notedBy (model I5 w) (A.mark (some (.ref e))) env fun x I6=>cameBackBy (model I5 w) A env E x I6) s:=by
   obtain ⟨bm,hX,hno⟩:=XF c hc
   obtain ⟨oe,vs,T,oT,ts,ge,⟨gc,_⟩,_⟩:=id H.traced
   refine jF (hX.keeps kB) (by obtain ⟨bmD,hXD⟩:=vp XF hD;exact ⟨bmD,hXD.keeps kB⟩) ge gc ?_
   rw [List.contains_cons,hno q.1 hD,Bool.or_false]
   by_cases e1:c=q.1
   ·rw [if_pos e1] at hex
    rw [e1,beq_self_eq_true]
    refine codeAny_handlers_suite (cM H.stays H.frames H.traced.at fun h' H' k'=>?_)
    refine wpAny_execs_cons (wpAny_Return_some (Calls.Constant_str ?_))
    rw [be hex]
    exact hQ { s with heap:=h',toks:=s.toks+1 } _ H' k' rfl rfl
   ·rw [if_neg e1] at hex
    rw [dO (fun e2=>e1 (Value.ref.inj e2).symm)]
    exact ig FX XF hkind hglob hblt hc hB h2 hex H hQ
  rcases hz with hz|⟨hz,hz2⟩
  ·exact Calls.Name_function_global hkind h1 (Calls.loadGlobal_global G' hz go) hdb
  ·exact Calls.Name_function_global hkind h1 (Calls.loadGlobal_builtin G' hz B2 hz2 go) hdb
theorem Cs {b:List Stmt} {pb:List PS} {hs:List ExceptHandler} {l:List (Addr×List Nat)} {pos:Pos} (FX:aU C P B K) (XF:bx P B) (hA:A.frames=some fr) (SE:bP B fr env) (hl:iA C env.scope l hs=true) (hne:hs≠[]) (hb:rV I5 w C P B fr A env cf n b pb):ju I5 w C P B fr A env cf n (.Try b hs [] [] pos) (.try_ pb l):=by
 intro ρ as hh s h0 N Q E h
 rcases hs with _|⟨hd,hs⟩
 ·exact absurd rfl hne
 ·refine wpAny_Try_except (hb ρ as hh s h0 N _ _ ?_)
  replace h:ai I5 w C B (cN C P B env) fr (aG env) as s (caught P l ρ (exs P cf n pb ρ hh)) Q E:=h
  rcases hm:exs P cf n pb ρ hh with ⟨r,h'⟩|⟨c,h'⟩|_
  ·rw [hm] at h
   intro as' s' f p rr
   obtain ⟨fl,ρ'⟩:=r
   obtain ⟨rf,N'⟩:=rr
   cases rf with
   |next=>exact wpAny_execs_nil (h as' s' _ p ⟨.next,N'⟩)
   |cont=>exact h as' s' _ p ⟨.cont,N'⟩
   |ret rv=>exact h as' s' _ p ⟨.ret rv,N'⟩
  ·rw [hm] at h
   intro s' ev e as' B' T
   refine ai.opt (show ai I5 w C B (cN C P B env) fr (aG env) as s (bq (ifO (isX P c) (exh P c l)) fun t=>.ok (.ret (.str t),ρ) h') Q E from h) fun t ht h=>?_
   refine aJ ht fun hc hex=>?_
   refine T.noted hA SE fun s'' a0 T' ht=>?_
   have ei:=T'.isRef
   rw [ei] at T'⊢
   refine cM T'.stays T'.frames ht fun Ic H k3=>?_
   refine ig (fr:=fr) (s:={ s'' with heap:=Ic }) FX XF N.kind N.glob N.blt hc (fun a o g=>T'.rel.base a o g) hl hex H fun I6 tok J3 II hg ho=>?_
   have pc:aI I5 w C B fr (aG env) as s as' h' I6:=T'.caught h0 J3.stays (fun b o g d=>II b o (k3 b o g d) d) (by obtain ⟨oe,_,_,_,_,ge,_⟩:=J3.traced;rw [ge];rfl) hg ho
   exact h as' I6 _ pc ⟨.ret (.inl (.str _ _)),fun q=>absurd rfl (q _)⟩
  ·rw [hm] at h;exact h.elim
end
noncomputable def uj:PE->Bool
 |.comp ..=>true
 |_=>false
section
variable {I5:Program} {w:World} {C:CV} {P:PT} {K:Frag} {B:Heap} {fr:List Env} {A:Around} {env:Env} {cf:V->List V->PM V} {n k:Nat}
theorem DF {sc:Scope} {p:PE} {elt:Expr} {gs:List Comprehension} {sc':Scope} {pos:Pos} (h:bG C sc p (.ListComp elt gs sc' pos)=true):uj p=true:=by rcases p with _|_<;>first|rfl|exact h
theorem DE {sc:Scope} {p:PE} {elt:Expr} {gs:List Comprehension} {sc':Scope} {pos:Pos} (h:bG C sc p (.SetComp elt gs sc' pos)=true):False:=by rcases p with _|_<;>exact Bool.false_ne_true h
theorem DI {sc:Scope} {p:PE} {a b:Expr} {gs:List Comprehension} {sc':Scope} {pos:Pos} (h:bG C sc p (.DictComp a b gs sc' pos)=true):False:=by rcases p with _|_<;>exact Bool.false_ne_true h
theorem rj {p:PE} (h:uj p=true):∃a b c d,p=.comp a b c d:=isT.to (p:=∃a b c d,p=.comp a b c d) (by clear h;rcases p with _|_<;>first|exact trivial|exact ⟨_,_,_,_,rfl⟩) h
theorem FO {sc:Scope} {p:PE} {e:Expr} (hn:gP e=false) (h:bG C sc p e=true):∃elt gs sc' pos,e=.ListComp elt gs sc' pos:=by
 rcases e with _|_<;>first|exact ⟨_,_,_,_,rfl⟩|exact (DE h).elim|exact (DI h).elim|exact (Bool.false_ne_true hn.symm).elim
theorem nA {e:Expr} (h:(jw e).isSome=true):∃y p,e=.Name y p:=by
 obtain ⟨y,hy⟩:=Option.isSome_iff_exists.mp h
 obtain ⟨p,e⟩:=dX hy
 exact ⟨y,p,e⟩
theorem DO {e:Expr} {p:PE} {y:Str} {x:Nat} {p0 pos:Pos} (FX:aU C P B K) (hA:AOK A fr n) (CK:cj I5 w C B P cf n) (SE:bP B fr env) (hid:C.id y=some x) (hk:env.kindOf y=some .local\/env.kindOf y=some .cell) (h:bG C env.scope p e=true):ju I5 w C P B fr A env cf k (.Assign [.Name y p0] e pos) (.asg x p):=by
 have ex:=fun ρ=>(aB FX hA CK p e env ρ h).1
 rcases hn:gP e with _|_
 ·obtain ⟨elt,gs,sc',py,e1⟩:=FO hn h
  rw [e1] at h ex⊢
  rcases qJ elt gs sc' py y p0 pos.line (env:=env) with hsw|hsw
  ·obtain ⟨pe,ix,it,c,e2⟩:=rj (DF h)
   rw [e2] at h⊢
   refine ac h fun t ht h=>?_
   refine a7 h fun h h5=>?_
   refine a7 h fun h h4=>?_
   refine a7 h fun h h3=>?_
   refine a7 h fun h1 h2=>?_
   refine ac h5 fun o ho h5=>?_
   obtain ⟨px,q,e3⟩:=pD ht
   rw [e3] at hsw⊢
   refine qS FX hA.handled SE hid hk (eq_of_beq h1) h2 (gv h4) (fun ρ=>(aB FX hA CK it t.it env ρ h4).1) (fun cenv ρ' hc=>(aB FX hA CK pe t.elt cenv ρ' (hc▸h3)).1) (fun cenv ρ' hc=>?_) hsw
   rw [ul ho]
   rcases o with _|y
   ·exact .inl ⟨rfl,uh h5⟩
   ·exact .inr ⟨y,rfl,(aB FX hA CK c y cenv ρ' (hc▸h5)).2⟩
  ·exact jS SE hid hk ex hsw
 ·exact jS SE hid hk ex ((qI e y p0 _).to hn)
mutual
theorem zc (FX:aU C P B K) (XF:bx P B) (hA:AOK A fr n) (CK:cj I5 w C B P cf n) (SE:bP B fr env) (p:PS) (st:Stmt) (h:E8 C env.scope p st=true):ju I5 w C P B fr A env cf k st p:=by
 have EX:=fun p e (h:bG C env.scope p e=true) ρ=>(aB FX hA CK p e env ρ h).1
 have TX:=fun p e (h:bG C env.scope p e=true) ρ=>(aB FX hA CK p e env ρ h).2
 have AX:=fun ps es (h:fV C env.scope ps es=true) ρ=>dY FX hA CK ps es env ρ h
 match p with
 |.expr p=>
  refine ac h fun e he h=>?_
  refine a7 h fun h1 h2=>?_
  obtain ⟨q,rfl⟩:=wM he
  exact zf h1 (EX _ _ h2)
 |.asg x p=>
  refine ac h fun t ht h=>?_
  refine a7 h fun h1 h2=>?_
  obtain ⟨q,rfl⟩:=fO ht
  obtain ⟨y,p0,e,hi,hk⟩:=kG h1
  rw [e]
  exact DO FX hA CK SE hi hk h2
 |.asgT xs p=>
  refine ac h fun t ht h=>?_
  refine a7 h fun h h3=>?_
  refine a7 h fun h1 h2=>?_
  refine ac h1 fun ts hts h1=>?_
  obtain ⟨q,rfl⟩:=fO ht
  obtain ⟨k,p0,e⟩:=fM hts
  rw [e]
  exact qT hA.handled SE h1 h2 (EX _ _ h3)
 |.asgD xs ps=>
  refine ac h fun t ht h=>?_
  refine a7 h fun h h3=>?_
  refine a7 h fun h1 h2=>?_
  refine ac h1 fun ts hts h1=>?_
  refine ac h3 fun vs hvs h3=>?_
  refine a7 h3 fun h3 h4=>?_
  obtain ⟨q,rfl⟩:=fO ht
  obtain ⟨k,p0,e⟩:=fM hts
  obtain ⟨k2,p2,e2⟩:=fM hvs
  rw [e2] at h2
  rw [e,e2]
  exact qV hA.handled SE h1 (Bool.not_eq_true' _ |>.mp h2) (of_decide_eq_true h3) (AX _ _ h4)
 |.asgA o x p=>
  refine ac h fun t ht h=>?_
  refine a7 h fun h h3=>?_
  refine ac h fun a ha h=>?_
  refine a7 h fun h1 h2=>?_
  obtain ⟨q,rfl⟩:=fO ht
  obtain ⟨p0,e⟩:=io ha
  rw [e]
  exact qW FX (eq_of_beq h1) (EX _ _ h3) (EX _ _ h2)
 |.asgTA o x o2 x2 p=>
  refine ac h fun t ht h=>?_
  refine a7 h fun h h5=>?_
  refine ac h fun w2 hw h=>?_
  refine a7 h fun h h6=>?_
  refine ac h fun a ha h=>?_
  refine a7 h fun h1 h2=>?_
  refine ac h6 fun a2 ha2 h6=>?_
  refine a7 h6 fun h3 h4=>?_
  refine a8 hw fun ts hts hw=>?_
  obtain ⟨q,rfl⟩:=fO ht
  obtain ⟨k,p0,e⟩:=fM hts
  obtain ⟨p1,e1⟩:=io ha
  obtain ⟨p2,e2⟩:=io ha2
  rw [e,lQ hw,e1,e2]
  exact nZ FX hA.handled (eq_of_beq h1) (eq_of_beq h3) (EX _ _ h5) (EX _ _ h2) (EX _ _ h4)
 |.asgI o i p=>
  refine ac h fun t ht h=>?_
  refine a7 h fun h h4=>?_
  refine ac h fun a ha h=>?_
  refine a7 h fun h h3=>?_
  refine a7 h fun h1 h2=>?_
  obtain ⟨q,rfl⟩:=fO ht
  obtain ⟨p0,e⟩:=iR ha
  rw [e]
  exact qU (pE hA) (EX _ _ h4) (EX _ _ h2) (EX _ _ h3)
 |.ret p=>
  refine ac h fun o ho h=>?_
  obtain ⟨q,rfl⟩:=nw ho
  rcases o with _|e
  ·rw [ui h]
   exact qQ
  ·exact Ct (EX _ _ h)
 |.retX f ps=>
  refine ac h fun o ho h=>?_
  refine ac h fun e he h=>?_
  refine ac h fun t ht h=>?_
  refine a7 h fun h h4=>?_
  refine a7 h fun h h3=>?_
  refine a7 h fun h1 h2=>?_
  obtain ⟨q,rfl⟩:=nw ho
  obtain ⟨q2,e2⟩:=g8 ht
  obtain ⟨y,q3,e3⟩:=nA h1
  rw [e3] at h3 e2
  rw [he,e2]
  exact ze hA CK (EX _ _ h3) (AX _ _ h4)
 |.ite c a b=>
  refine ac h fun t ht h=>?_
  refine a7 h fun h h3=>?_
  refine a7 h fun h1 h2=>?_
  obtain ⟨q,rfl⟩:=CH ht
  exact Fn (TX _ _ h1) (cz FX XF hA CK SE a _ h2) (cz FX XF hA CK SE b _ h3)
 |.whl c b=>
  refine ac h fun t ht h=>?_
  refine a7 h fun h1 h2=>?_
  obtain ⟨q,rfl⟩:=zw ht
  exact wB hA.frames SE (TX _ _ h1) (cz FX XF hA CK SE b _ h2)
 |.for_ xs true it b=>
  refine ac h fun t ht h=>?_
  refine a7 h fun h h3=>?_
  refine a7 h fun h1 h2=>?_
  refine ac h1 fun x hx h1=>?_
  obtain ⟨q,rfl⟩:=ny ht
  obtain ⟨y,p0,e,hi,hk⟩:=kG h1
  rw [e,one_of hx]
  exact xY FX hA.frames hA.handled SE (gv h2) (EX _ _ h2) (cz FX XF hA CK SE b _ h3) (nW SE hi hk)
 |.for_ xs false it b=>
  refine ac h fun t ht h=>?_
  refine a7 h fun h h3=>?_
  refine a7 h fun h1 h2=>?_
  refine ac h1 fun ts hts h1=>?_
  obtain ⟨q,rfl⟩:=ny ht
  obtain ⟨k,p0,e⟩:=fM hts
  rw [e]
  exact xY FX hA.frames hA.handled SE (gv h2) (EX _ _ h2) (cz FX XF hA CK SE b _ h3) (i9 hA.handled SE h1)
 |.forZip xs p1 p2 b=>
  refine ac h fun t ht h=>?_
  refine a7 h fun h h3=>?_
  refine a7 h fun h1 h2=>?_
  refine ac h1 fun ts hts h1=>?_
  refine ac h2 fun c hc h2=>?_
  refine a7 h2 fun h2 h6=>?_
  refine a7 h2 fun h2 h5=>?_
  refine ac h6 fun y hy h6=>?_
  refine a7 h6 fun h6 h9=>?_
  refine a7 h6 fun h6 h8=>?_
  refine a7 h6 fun h6 h7=>?_
  obtain ⟨q,rfl⟩:=ny ht
  obtain ⟨k,p0,e⟩:=fM hts
  obtain ⟨q2,e2⟩:=g8 hc
  obtain ⟨z,q3,e3⟩:=nA h2
  rw [e3] at h5
  rw [e,e2,e3,lQ hy]
  exact uY hA.frames hA.handled SE h1 (EX _ _ h5) h6 h7 (EX _ _ h8) (EX _ _ h9) (cz FX XF hA CK SE b _ h3)
 |.raiseC f ps=>
  refine ac h fun e he h=>?_
  refine ac h fun t ht h=>?_
  refine a7 h fun h h3=>?_
  refine a7 h fun h1 h2=>?_
  obtain ⟨q,rfl⟩:=mu he
  obtain ⟨q2,e2⟩:=g8 ht
  obtain ⟨y,q3,e3⟩:=nA h1
  rw [e3] at h2 e2
  rw [e2]
  exact uX XF hA CK (EX _ _ h2) (AX _ _ h3)
 |.raiseM o x ps=>
  refine ac h fun e he h=>?_
  refine ac h fun t ht h=>?_
  refine a7 h fun h h4=>?_
  refine a7 h fun h h3=>?_
  refine a7 h fun h1 h2=>?_
  obtain ⟨q,rfl⟩:=mu he
  rw [pB ht]
  exact uW FX XF hA CK (eq_of_beq h1) h2 (EX _ _ h3) (AX _ _ h4)
 |.try_ b hs=>
  refine ac h fun t ht h=>?_
  refine a7 h fun h1 h2=>?_
  obtain ⟨q,rfl,hne⟩:=zx ht
  exact Cs FX XF hA.frames SE h1 hne (cz FX XF hA CK SE b _ h2)
 |.cont=>
  obtain ⟨q,rfl⟩:=wN h
  exact nY
theorem cz (FX:aU C P B K) (XF:bx P B) (hA:AOK A fr n) (CK:cj I5 w C B P cf n) (SE:bP B fr env) (ps:List PS) (l:List Stmt) (h:gG C env.scope ps l=true):rV I5 w C P B fr A env cf k l ps:=by
 match ps,l with
 |[],l=>rw [aL h];exact Cr
 |_::_,[]=>injection h
 |p::ps,st::l=>
  refine a7 h fun h1 h2=>?_
  exact zd (zc FX XF hA CK SE p st h1) (cz FX XF hA CK SE ps l h2)
end
end
end
section
open W PyProof.Rows SeqAt
noncomputable def iI:List (Str×Value)->List (Str×Value)->List (Str×Value)
 |[],sl=>sl
 |(n,d)::r,sl=>iI r (if (sl.lookup n).isNone then sl++[(n,d)] else sl)
theorem hO:∀(l sl:List (Str×Value)),(forIn l sl fun (x:Str×Value) (s:List (Str×Value))=>if (s.lookup x.fst).isNone=true then (pure (ForInStep.yield (s++[(x.fst,x.snd)])):Sem _) else pure (ForInStep.yield s))=pure (iI l sl)
 |[],sl=>by rw [List.forIn_nil];rfl
 |(n,d)::r,sl=>by
  rw [List.forIn_cons]
  by_cases h:(sl.lookup n).isNone=true
  ·rw [if_pos h,pure_bind]
   show forIn r (sl++[(n,d)]) _=_
   rw [hO r]
   conv=>rhs;unfold iI
   rw [if_pos h]
  ·rw [if_neg h,pure_bind]
   show forIn r sl _=_
   rw [hO r]
   conv=>rhs;unfold iI
   rw [if_neg h]
theorem en {l m:List (Str×Value)} {n:Str}:(l++m).lookup n=match l.lookup n with|some v=>some v|none=>m.lookup n:=by
 induction l with
 |nil=>rfl
 |cons p l ih=>
  obtain ⟨a,b⟩:=p
  rw [List.cons_append,so,so]
  rcases h:n==a with _|_
  ·exact ih
  ·rfl
theorem jc:∀{l sl:List (Str×Value)} {n:Str} {v:Value},sl.lookup n=some v->(iI l sl).lookup n=some v
 |[],_,_,_,h=>h
 |(a,d)::r,sl,n,v,h=>by
  unfold iI
  refine jc ?_
  split
  ·rw [en,h]
  ·exact h
theorem mG:∀{l sl:List (Str×Value)} {n:Str} {v:Value},sl.lookup n=none->l.lookup n=some v->(iI l sl).lookup n=some v
 |[],_,_,_,_,h=>by injection h
 |(a,d)::r,sl,n,v,h,h'=>by
  unfold iI
  rw [so] at h'
  by_cases e:n=a
  ·subst e
   simp only [beq_self_eq_true,Option.some.injEq] at h'
   subst h'
   rw [if_pos (by rw [h];rfl)]
   refine jc ?_
   rw [en,h]
   simp [so]
  ·have:(n==a)=false:=by simpa using e
   rw [this] at h'
   refine mG ?_ h'
   split
   ·rw [en,h]
    simp [so,this]
   ·exact h
theorem cS:∀{l:List (Str×Value)} {n:Str} {v:Value},(l.map (·.1)).Nodup->(n,v)∈l->l.lookup n=some v
 |(a,b)::l,n,v,nd,h=>by
  rw [List.map_cons,List.nodup_cons] at nd
  rw [so]
  rcases List.mem_cons.mp h with e|h
  ·cases e;simp
  ·have:n≠a:=fun e=>nd.1 (by rw [<-e];exact List.mem_map.mpr ⟨_,h,rfl⟩)
   have:(n==a)=false:=by simpa using this
   rw [this]
   exact cS nd.2 h
theorem jC {l:List (Str×Value)} {n:Str} (h:n∉l.map (·.1)):l.lookup n=none:=by
 induction l with
 |nil=>rfl
 |cons p l ih=>
  obtain ⟨a,b⟩:=p
  rw [List.map_cons,List.mem_cons,not_or] at h
  rw [so]
  have:(n==a)=false:=by simpa using h.1
  rw [this]
  exact ih h.2
theorem eA {sl:List (Str×Value)}:∀{l:List (Str×Value)},(∀p∈l,sl.lookup p.1=some p.2)->(l.map (·.1)).filterMap (fun n=>Option.map (fun x=>(n,x)) (sl.lookup n))=l
 |[],_=>rfl
 |(a,b)::l,h=>by
  rw [List.map_cons,List.filterMap_cons,h (a,b) (.head _)]
  simp only [Option.map_some]
  rw [eA fun p hp=>h p (.tail _ hp)]
theorem pr {names:List Str} {vs:List Value} (h:names.length<=vs.length):(names.zip vs).map (·.1)=names:=by
 have:=List.map_fst_zip (l₁:=names) (l₂:=vs) h
 simpa using this
theorem je {names:List Str} {vs:List Value} (h:vs.length<=names.length):(names.zip vs).map (·.1)=names.take vs.length:=by
 induction names generalizing vs with
 |nil=>cases vs with
  |nil=>rfl
  |cons _ _=>simp at h
 |cons n names ih=>cases vs with
  |nil=>rfl
  |cons v vs=>simp only [List.zip_cons_cons,List.map_cons,List.length_cons,List.take_succ_cons];rw [ih (by simpa using h)]
theorem vP {names:List Str} {xs dl:List Value} (nd:names.Nodup) (h1:xs.length<=names.length) (h2:dl.length<=names.length) (h3:names.length - dl.length<=xs.length):
  names.filterMap (fun n=>Option.map (fun x=>(n,x)) ((iI ((names.drop (names.length - dl.length)).zip dl) (names.zip xs)).lookup n))=names.zip (xs++dl.drop (xs.length - (names.length - dl.length))):=by
 have hl:(xs++dl.drop (xs.length - (names.length - dl.length))).length=names.length:=by rw [List.length_append,List.length_drop];exact zP h1 h2 h3
 have hk:(names.zip (xs++dl.drop (xs.length - (names.length - dl.length)))).map (·.1)=names:=pr (by omega)
 have key:=eA (sl:=iI ((names.drop (names.length - dl.length)).zip dl) (names.zip xs)) (l:=names.zip (xs++dl.drop (xs.length - (names.length - dl.length)))) (fun p hp=>?_)
 ·rw [hk] at key;exact key
 ·have e:∀d',names.zip (xs++d')=(names.take xs.length).zip xs++(names.drop xs.length).zip d':=fun d'=>by
   conv=>lhs;rw [<-List.take_append_drop xs.length names]
   rw [List.zip_append (by simp;omega)]
  have ez:names.zip xs=(names.take xs.length).zip xs:=by
   conv=>lhs;rw [<-List.take_append_drop xs.length names]
   have:=List.zip_append (l₁:=names.take xs.length) (r₁:=names.drop xs.length) (l₂:=xs) (r₂:=([]:List Value)) (by simp;omega)
   simpa using this
  have kz:(names.zip xs).map (·.1)=names.take xs.length:=je h1
  obtain ⟨n,v⟩:=p
  rw [e] at hp
  rcases List.mem_append.mp hp with hp|hp
  ·refine jc (cS ?_ (ez▸hp))
   rw [kz]
   exact nd.sublist (List.take_sublist ..)
  ·have hn:n∈names.drop xs.length:=(List.of_mem_zip hp).1
   refine mG (jC ?_) (cS ?_ ?_)
   ·rw [kz]
    intro hm
    rw [<-List.take_append_drop xs.length names] at nd
    exact (List.nodup_append.mp nd).2.2 n hm n hn rfl
   ·rw [pr (by rw [List.length_drop,Nat.sub_sub_self h2];exact HM _)]
    exact nd.sublist (List.drop_sublist ..)
   ·have ed:((names.drop (names.length - dl.length)).zip dl).drop (xs.length - (names.length - dl.length))=(names.drop xs.length).zip (dl.drop (xs.length - (names.length - dl.length))):=by
     show (List.zipWith Prod.mk _ _).drop _=List.zipWith Prod.mk _ _
     rw [List.drop_zipWith,List.drop_drop]
     congr 2
     exact Nat.add_sub_of_le h3
    rw [<-ed] at hp
    exact List.mem_of_mem_drop hp
theorem ko:∀{ps:List Nat} {vs ds:List V} {ρ:Loc},aZ ps vs ds=some ρ->vs.length<=ps.length/\ps.length - vs.length<=ds.length/\ρ=ps.zip (vs++ds.drop (ds.length - (ps.length - vs.length)))
 |[],as,ds,ρ,h=>by
  refine aJ h fun h1 h2=>?_
  rw [aL h1,<-be h2]
  exact ⟨Nat.zero_le _,Nat.zero_le _,rfl⟩
 |p::ps,[],ds,ρ,h=>by
  refine aJ h fun h1 h2=>?_
  exact ⟨Nat.zero_le _,of_decide_eq_true h1,(be h2).symm⟩
 |p::ps,v::vs,ds,ρ,h=>by
  refine aW (show (aZ ps vs ds).map ((p,v)::·)=some ρ from h) fun ρ' hb e=>?_
  obtain ⟨e1,e2,e3⟩:=ko hb
  rw [List.length_cons,List.length_cons,Nat.add_sub_add_right]
  exact ⟨Nat.succ_le_succ e1,e2,by rw [<-e,e3];rfl⟩
theorem yt {M:Model} {A:Around} {β:Type} {Q:β->Shared->Prop} {E:Value->Shared->Prop} {s:Shared} {c:Bool} {e J:Sem β} (h:c=false) (w:wpAny M A J Q E s):wpAny M A (if c=true then e else J) Q E s:=by
 rw [h];exact w
theorem wL {M:Model} {A:Around} {s:Shared} {D:Value} {dl:List Value} {E:Value->Shared->Prop} {K:Option (Array Value)->Shared->Prop}
  (hd:(D=.none/\dl=[])\/∃T ys,D=.ref T/\gM s.heap T ys/\dl=ys) (h:∀o:Option (Array Value),(o.getD #[]).toList=dl->K o s):wpAny M A (seqItems? D) K E s:=by
 rcases hd with ⟨e,rfl⟩|⟨T,ys,e,⟨o,k,g,c,d,_⟩,rfl⟩
 ·rw [e];exact wpAny_pure (h none rfl)
 ·rw [e];exact wpAny_seqItems g d (h _ rfl)
theorem xM {s:Shared} {fd:FuncData} {as:List Arg} {t:List Expr} {xs dl:List Value} (hp:fd.params=⟨[],as,none,[],[],none,t⟩) (nd:(as.map (·.arg)).Nodup)
  (hd:(fd.defaults=.none/\dl=[])\/∃T ys,fd.defaults=.ref T/\gM s.heap T ys/\dl=ys) (h1:xs.length<=as.length) (h2:dl.length<=as.length) (h3:as.length - dl.length<=xs.length):
  BindsTo s fd ⟨xs,[]⟩ ((as.map (·.arg)).zip (xs++dl.drop (xs.length - (as.length - dl.length)))):=by
 intro M A E Q hQ
 have hm:List.filter (fun n=>(List.lookup n ((as.map (·.arg)).zip xs)).isNone) (List.take (as.length - dl.length) (as.map (·.arg)))=[]:=by
  have hz:(((as.map (·.arg)).zip xs).map (·.1))=(as.map (·.arg)).take xs.length:=je (by simpa using h1)
  refine List.filter_eq_nil_iff.2 fun n hn=>?_
  have:n∈(((as.map (·.arg)).zip xs).map (·.1)):=hz▸(List.take_subset_take_left _ h3) hn
  obtain ⟨⟨a,b⟩,hab,rfl⟩:=List.mem_map.mp this
  rw [cS (by rw [hz];exact nd.sublist (List.take_sublist ..)) hab]
  simp
 have hb:=vP (xs:=xs) (dl:=dl) nd (by simpa using h1) (by simpa using h2) (by simpa using h3)
 obtain ⟨f1,f2,f3,f4,f5,f6,f7,f8,f9,f10,f11⟩:=fd
 cases hp
 refine wpAny_bind (m:=seqItems? _) (wL hd fun o ho=>?_)
 have e0:(List.map (fun x=>x.arg) ([]:List Arg)++List.map (fun x=>x.arg) as)=List.map (fun x=>x.arg) as:=rfl
 have hdrop:List.drop ((o.getD #[]).toList.length - (List.map (fun x=>x.arg) as).length) (o.getD #[]).toList=dl:=by rw [ho,on,Nat.sub_eq_zero_of_le h2];rfl
 have hlen:¬(xs.length > (List.map (fun x=>x.arg) as).length):=by rw [on];exact Nat.not_lt_of_le h1
 refine yt ((Bool.and_true _).trans (decide_eq_false hlen)) ?_
 refine yt (J:=_ >>= _) ?_ (wpAny_bind (wpAny_of_eq (hO _ _) (wpAny_pure (cast (congrArg (Q · s) ?_) hQ))))
 ·show (!(List.filter _ (List.take ((List.map (fun x=>x.arg) as).length - (List.drop ((o.getD #[]).toList.length - (List.map (fun x=>x.arg) as).length) (o.getD #[]).toList).length) (List.map (fun x=>x.arg) as))).isEmpty)=false
  rw [hdrop,on]
  exact congrArg (fun l=>!List.isEmpty l) hm
 ·refine Eq.trans ?_ (congrArg (fun d=>List.filterMap (fun n=>Option.map (fun x=>(n,x)) (List.lookup n (iI ((List.drop ((List.map (fun x=>x.arg) as).length - d.length) (List.map (fun x=>x.arg) as)).zip d) ((List.map (fun x=>x.arg) as).zip xs)))) (List.map (fun x=>x.arg) as++[])) hdrop.symm)
  rw [th,hb,on]
end
section
open W PyProof.Rows SeqAt
section
variable {I5:Program} {w:World} {C:CV} {P:PT} {K:Frag} {B:Heap} {fr:List Env} {own:Addr->Prop} {A:Around} {as as' as₀:AS} {s s' s'' Im:Shared} {hh hh':H} {env:Env} {ρ:Loc} {cf:V->List V->PM V} {n k:Nat} {E:Value->Shared->Prop}
theorem lF.tail {h:Heap} (F:lF B (env::fr) h):lF B fr h:=⟨F.1.2.2,fun e he=>F.2 e (.tail _ he)⟩
theorem aI.tail (p:aI I5 w C B (env::fr) own as s as' hh' s'):aI I5 w C B fr own as s as' hh' s':=⟨p.step,p.rel,p.frs.tail,p.gens,p.os⟩
set_option tactic.hygienic true in
theorem hW {y:Str}:∀(names:List (Str×NameKind)) (n:Nat) (acc:List (Str×Addr)),((y,NameKind.cell)∈names\/∃c,acc.lookup y=some c)->∃c,(cellsFrom n names acc).lookup y=some c
 |[],_,_,h=>h.elim (fun q=>nomatch q) id
 |(a,kd)::r,n,acc,h=>by
  unfold cellsFrom
  split
  ·refine hW r _ _ ?_
   rcases h with h|⟨c,h⟩
   ·rcases List.mem_cons.mp h with e|h
    ·rw [(Prod.mk.inj e).1];exact .inr ⟨n,by rw [so,beq_self_eq_true]⟩
    ·exact .inl h
   ·right
    rw [so]
    rcases y==a with _|_
    ·exact ⟨c,h⟩
    ·exact ⟨_,rfl⟩
  ·rename_i hkd
   refine hW r _ _ ?_
   rcases h with h|h
   ·rcases List.mem_cons.mp h with e|h
    ·exact absurd (beq_iff_eq.mpr (Prod.mk.inj e).2.symm) hkd
    ·exact .inl h
   ·exact .inr h
theorem mQ {scope:Scope} {qual:Str} {func:Option Addr} {code:Value} (h0:aP I5 w C B fr as hh s) (hk:scope.kind=.function) (nd:(scope.names.map (·.1)).Nodup) (nf:∀y∈scope.names,y.2≠.free)
  {s₁:Shared} (e1:s₁.heap=pushCells (s.heap.push { cls:=.type "frame",data:=.dict #[] }) scope.names) (hg:s₁.gens=s.gens) (ho:s₁.os=s.os)
  (he:env=newEnv scope s.heap.objs.size mainGlobals (cellsFrom (s.heap.objs.size+1) scope.names []) qual func code none builtinsNs):
  aI I5 w C B fr ay as s as hh s₁/\aP I5 w C B (env::fr) as hh s₁/\aF C env [] as s₁.heap/\bP B (env::fr) env/\(∀a,aG env a->s.heap.get? a=none):=by
 have eL:env.locals=s.heap.objs.size:=by rw [he];rfl
 have eF:env.frame=some s.heap.objs.size:=by rw [he];rfl
 have eC:env.cells=cellsFrom (s.heap.objs.size+1) scope.names []:=by rw [he];rfl
 have eS:env.scope=scope:=by rw [he];rfl
 have kp:∀b o,s.heap.get? b=some o->s₁.heap.get? b=some o:=fun b o g=>by rw [e1];exact pushCells_keeps _ _ b o (HV _ g)
 have gL:s₁.heap.get? s.heap.objs.size=some { cls:=.type "frame",data:=.dict #[] }:=by rw [e1];exact pushCells_keeps _ _ _ _ (HU _ rfl)
 have ok:=cellsFrom_ok scope.names (s.heap.push { cls:=.type "frame",data:=.dict #[] }) (s.heap.objs.size+1) [] ⟨fun Z Z hm=>(nomatch hm),List.Pairwise.nil⟩ (by rw [Heap.size_push];exact HM _)
 rw [Heap.size_push,<-e1] at ok
 have dead:∀a,s.heap.objs.size<=a->s.heap.get? a=none:=fun a ha=>HW ha
 have nB:∀a,s.heap.get? a=none->B.get? a=none:=fun a g=>by
  rcases z:B.get? a with _|o
  ·rfl
  ·have:=h0.R.base _ _ z;rw [g] at this;injection this
 have p:=aI.grow (own:=ay) (s':=s₁) h0 kp hg ho
 have cellAlive:∀y c,env.cells.lookup y=some c->s₁.heap.IsCell c none/\s.heap.objs.size+1<=c:=fun y c hc=>ok.empty y c (aT (eC▸hc))
 have ownDead:∀a,aG env a->s.heap.get? a=none:=fun a ha=>by
  rcases ha with rfl|⟨y,_,hc⟩
  ·rw [eL];exact dead _ (HM _)
  ·exact dead _ (Nat.le_of_succ_le (cellAlive y a hc).2)
 have noFrame:∀a,s.heap.get? a=none->¬bc fr a:=fun a g hf=>by
  obtain ⟨o,g',_⟩:=h0.F.frame_alive hf
  rw [g] at g';injection g'
 have cellOf:∀y,env.kindOf y=some .cell->∃c,env.cells.lookup y=some c:=fun y hy=>by
  have hy:scope.names.lookup y=some .cell:=by rw [<-eS];exact hy
  rw [eC]
  exact hW _ _ _ (.inl (aT hy))
 have noFree:∀y,env.kindOf y≠some .free:=fun y hy=>nf (y,.free) (aT (by rw [<-eS];exact hy)) rfl
 have F':lF B (env::fr) s₁.heap:=by
  refine ⟨⟨by rw [eS,hk];decide,⟨s.heap.objs.size,_,eF,nB _ (dead _ (HM _)),gL,fun vs q=>by injection q⟩,p.frs.1⟩,fun e he'=>?_⟩
  rcases List.mem_cons.mp he' with rfl|he'
  ·exact ⟨_,_,eF,gL,rfl⟩
  ·exact p.frs.2 e he'
 refine ⟨p,⟨p.rel,F'⟩,⟨by rw [eS];exact hk,by rw [he];rfl,by rw [he];rfl,?_,?_,?_,?_,?_⟩,⟨by rw [eF,eL],⟨fr,rfl,fun e he' hL=>?_⟩,by rw [eL];exact nB _ (dead _ (HM _)),fun y c hy hc=>?_⟩,ownDead⟩
 ·intro f
  obtain ⟨o,g,_⟩:=h0.R.kind f
  rw [eL,dead _ (HM _)] at g;injection g
 ·rw [eL,e1]
  exact ⟨_,(Heap.Ns.new s.heap (.type "frame")).keeps (pushCells_keeps _ _),fun y x v Z Z h=>by injection h⟩
 ·intro y x v _ _ h;injection h
 ·intro y hy
  rcases hy with hy|hy
  ·obtain ⟨c,hc⟩:=cellOf y hy
   obtain ⟨o,g,d⟩:=(cellAlive y c hc).1
   exact ⟨c,o,none,hc,g,d⟩
  ·exact absurd hy (noFree y)
 ·intro y z c _ hy hz
  rw [eC] at hy hz
  exact name_of_addr ok.apart (aT hy) (aT hz)
 ·rw [eL] at hL
  exact noFrame _ (dead _ (HM _)) ⟨e,he',hL⟩
 ·have hlt:=(cellAlive y c hc).2
  have hd:=dead c (Nat.le_of_succ_le hlt)
  refine ⟨nB c hd,by rw [eL];exact Nat.ne_of_gt hlt,fun ⟨e,he',hL⟩=>?_⟩
  rcases List.mem_cons.mp he' with rfl|he'
  ·rw [eF] at hL;(injection hL with hL;subst hL);exact absurd hlt (Nat.not_succ_le_self _)
  ·exact noFrame c hd ⟨e,he',hL⟩
theorem qm (SE:bP B fr env) (f:Str×Value->PUnit->Sem (ForInStep PUnit)) (hf:∀n v u,f (n,v) u=(do storeName env n v;pure (.yield ⟨⟩))):
  ∀{names:List Str} {ps:List Nat} {vs:List V} {ys:List Value} {ρ ρ₁:Loc} {as:AS} {hh:H} {s:Shared} {Q:PUnit->Shared->Prop},names.map C.id=ps.map some->(∀y∈names,env.kindOf y=some .local\/env.kindOf y=some .cell)->aE ps vs ρ=some ρ₁->
   aP I5 w C B fr as hh s->aF C env ρ as s.heap->aj as s.heap vs ys->(∀s',aI I5 w C B fr (aG env) as s as hh s'->aF C env ρ₁ as s'.heap->(∀a o,¬aG env a->s.heap.get? a=some o->s'.heap.get? a=some o)->Q ⟨⟩ s')->wpAny (model I5 w) A (forIn (names.zip ys) ⟨⟩ f) Q E s
 |[],ps,vs,ys,ρ,ρ₁,as,hh,s,Q,hn,hk,hs,h0,N,rv,hQ=>by
  rcases ps with _|⟨_,_⟩
  ·rcases vs with _|⟨_,_⟩
   ·exact wpAny_pure (hQ s ⟨dh.refl ..,h0.R,h0.F,rfl,rfl⟩ (be hs▸N) fun Z Z Z g=>g)
   ·exact aw hs
  ·injection hn
 |y::names,ps,vs,ys,ρ,ρ₁,as,hh,s,Q,hn,hk,hs,h0,N,rv,hQ=>by
  rcases ps with _|⟨i,ps⟩
  ·injection hn
  ·obtain ⟨hn1,hn2⟩:=List.cons.inj hn
   rcases vs with _|⟨v,vs⟩
   ·exact aw hs
   ·obtain ⟨z,zs,e,r1,r2⟩:=rv.inv
    rw [e,List.zip_cons_cons,List.forIn_cons,hf]
    refine wpAny_bind (wpAny_bind (jU h0 N SE (hk y (.head _)) hn1 r1 fun I6 I7 Id II=>wpAny_pure ?_))
    exact qm SE f hf hn2 (fun z hz=>hk z (.tail _ hz)) hs I7.here Id (r2.owned h0.R (N.ownOK h0.R) I7) fun s₃ Ib Ij Jf=>hQ s₃ (I7.trans Ib) Ij fun a o no g=>Jf a o no (II a o no g)
theorem ka {i:Nat}:∀{l:List (Nat×V)} {u:V},l.lookup i=some u->(i,u)∈l
 |[],_,h=>nomatch h
 |(a,b)::l,u,h=>by
  by_cases e:i=a
  ·rw [e,bj] at h
   rw [e,be h]
   exact List.mem_cons_self ..
  ·rw [b8 e] at h
   exact List.mem_cons_of_mem _ (ka h)
theorem ic:∀{ps:List Nat} {vs:List V} {ρ ρ₁:Loc},ps.Nodup->aE ps vs ρ=some ρ₁->∀i,ρ₁.lookup i=((ps.zip vs).lookup i).or (ρ.lookup i)
 |[],[],_,_,_,h,i=>by rw [<-be h];rfl
 |[],_::_,_,_,_,h,_=>aw h
 |_::_,[],_,_,_,h,_=>aw h
 |p::ps,v::vs,ρ,ρ₁,nd,h,i=>by
  obtain ⟨hp,nd⟩:=List.nodup_cons.mp nd
  rw [ic nd (show aE ps vs ((p,v)::ρ)=some ρ₁ from h) i,List.zip_cons_cons]
  by_cases hi:i=p
  ·rw [hi,bj,bj]
   rcases hz:(ps.zip vs).lookup p with _|u
   ·rfl
   ·exact absurd (List.of_mem_zip (ka hz)).1 hp
  ·rw [b8 hi,b8 hi]
end
end
section
open W PyProof.Rows SeqAt
section
variable {I5:Program} {w:World} {C:CV} {P:PT} {K:Frag} {B:Heap} {fr:List Env} {own:Addr->Prop} {A:Around} {as as' as₀:AS} {s s' s'' Im I6 s₃:Shared} {hh hh':H} {env:Env} {ρ:Loc} {cf:V->List V->PM V} {n k:Nat} {E:Value->Shared->Prop} {c e:Addr} {ev:Value} {B':Heap}
theorem x9 {Q:Unit->Shared->Prop} (hfr:A.frames=some (env::fr)) (hf:env.frame=some env.locals) (T:bn I5 w C B (env::fr) own as s c hh' s' ev e as' B')
  (hQ:∀h' a0,Heap.FlyingW B' fr e (.ref c) a0 h'->s'.heap.UpToSlots h'->Q () { s' with heap:=h' }):wpAny (model I5 w) A (leaving env ev) Q E s':=by
 have e1:=T.isRef
 subst e1
 rcases T.aloft with ⟨oe,vs,a0,g,hc,hd,h0,h1⟩|⟨a0,ht⟩|⟨a0,env',rest',L,e1,e2,ht⟩
 ·refine wpAny_leaving_firstW hfr T.frames hf g T.stays T.new hd h1 h0 fun h' hL=>?_
  obtain ⟨k1,⟨_,_,k2⟩,k3,k4⟩:=hL
  exact hQ h' a0 ⟨k1,T.new,k2,hc▸k3⟩ k4
 ·exact wpAny_leaves_onW hfr hf ⟨T.stays,T.new,T.frames,ht⟩ fun h' k1 k2=>hQ h' a0 k1 k2
 ·cases e1
  rw [hf] at e2;(injection e2 with e2;subst e2)
  unfold leaving
  refine wpAny_bind (wpAny_noteFrame_againW hf ht ?_)
  refine wpAny_landsW (l:=env::fr) ⟨T.stays,T.new,T.frames,ht⟩ fun h' hfl up=>?_
  obtain ⟨k1,k2,⟨_,_,k3⟩,k4⟩:=hfl
  exact hQ h' a0 ⟨k1,k2,k3,k4⟩ up
theorem dh.wide {own':Addr->Prop} {h h':Heap} (x:dh own as h as h') (k:∀a,own a->own' a):dh own' as h as h':=
 ⟨⟨[],(th as).symm,fun Z hp=>nomatch hp⟩,fun a o g nf no hx=>x.keep a o g nf (fun q=>no (k a q)) hx,fun a g no=>x.live a g fun q=>no (k a q),fun a no=>x.eps a fun q=>no (k a q)⟩
theorem bn.left {h':Heap} {a0:Value} (h0:aP I5 w C B fr as hh s) (p:aI I5 w C B fr ay as s as hh I6) (T:bn I5 w C B (env::fr) (aG env) as I6 c hh' s₃ ev e as' B') (dead:∀a,aG env a->s.heap.get? a=none)
  (hL:env.frame=some env.locals) (Fl:Heap.FlyingW B' fr e (.ref c) a0 h') (up:s₃.heap.UpToSlots h'):bn I5 w C B fr ay as s c hh' { s₃ with heap:=h' } (.ref e) e as' B':=by
 obtain ⟨f1,f2,f3,f4⟩:=Fl
 have offE:∀a,foot as a->a≠e:=fun a f q=>by
  obtain ⟨r,er⟩:=T.step.pre
  obtain ⟨o,g,_⟩:=T.rel.kind (a:=a) (by rw [er];exact bE.mpr (.inl f))
  rw [q,T.new] at g;injection g
 refine ⟨rfl,f1,f2,f3,.inr (.inl ⟨a0,f4⟩),?_,T.rel,fun env' he=>?_,fun o g=>Classical.byContradiction fun hx=>?_,id,fun L o hf g Z=>?_,T.gens.trans p.gens,T.os.trans p.os⟩
 ·have x:dh (fun a=>ay a\/bc fr a\/a=e) as s.heap as I6.heap:=p.step.wide fun a q=>q.elim
  have y:dh (fun a=>(ay a\/bc fr a\/a=e)\/aG env a) as I6.heap as' B':=by
   have eq:(fun a=>(ay a\/bc fr a\/a=e)\/aG env a)=(fun a=>aG env a\/bc (env::fr) a\/a=e):=by
    funext a
    apply propext
    constructor
    ·rintro ((q|⟨x,hx,hf⟩|q)|q)
     ·exact q.elim
     ·exact .inr (.inl ⟨x,.tail _ hx,hf⟩)
     ·exact .inr (.inr q)
     ·exact .inl q
    ·rintro (q|⟨x,hx,hf⟩|q)
     ·exact .inr q
     ·rcases List.mem_cons.mp hx with rfl|hx
      ·rw [hL] at hf;(injection hf with hf;subst hf)
       exact .inr (.inl rfl)
      ·exact .inl (.inr (.inl ⟨x,hx,hf⟩))
     ·exact .inl (.inr (.inr q))
   rw [eq];exact T.step
  exact x.under y dead
 ·obtain ⟨L,o,hL',g,cl⟩:=T.frs env' (.tail _ he)
  obtain ⟨_,o',g',d⟩:=T.frames.mem (List.mem_filterMap.mpr ⟨env',.tail _ he,hL'⟩)
  rw [g] at g';(injection g' with g';subst g')
  obtain ⟨sl,Io⟩:=up L o g d
  exact ⟨L,_,hL',Io,cl⟩
 ·obtain ⟨o',g',H⟩:=p.step.keep e o g (fun f=>offE e f rfl) id hx
  exact hx (H.exc.mpr (T.was o' g'))
 ·obtain ⟨o',g',_,d⟩:=h0.F.frame_alive hf
  rw [g] at g';(injection g' with g';subst g')
  obtain ⟨sl,IA⟩:=p.step.keepU g (h0.R.frame_off h0.F hf) id d
  obtain ⟨x,hx,hfx⟩:=hf
  obtain ⟨sl',Io⟩:=T.slots L _ ⟨x,.tail _ hx,hfx⟩ IA fun q=>by rw [dead L q] at g;injection g
  obtain ⟨sl'',ID⟩:=up L _ Io d
  exact ⟨sl'',ID⟩
theorem AOK.deeper (hA:AOK A fr (n+1)):AOK (A.deeper env) (env::fr) n:=
 ⟨by show A.frames.map (env::·)=_;rw [hA.frames];rfl,hA.handled,by have:=hA.depth;show A.depth+1+4*n < 900;omega,by have:=hA.units;show A.units+3+24*n < 9000;omega⟩
theorem pV {α β:Type} {f:α->Option β}:∀{l:List α} {m:List β},l.mapM f=some m->l.map f=m.map some
 |[],m,h=>by rw [List.mapM_nil] at h;rw [<-be h];rfl
 |a::l,m,h=>by
  rw [List.mapM_cons] at h
  refine a8 h fun b h1 h=>?_
  refine a8 h fun m' h2 h=>?_
  rw [<-be h,List.map_cons,List.map_cons,h1,pV h2]
theorem oh {ns:List Str} {xs:List Nat} (e:ns.map C.id=xs.map some) (nd:xs.Nodup):ns.Nodup:=by
 have:(xs.map some).Nodup:=List.pairwise_map.mpr (nd.imp fun {a b} h q=>h (be q))
 rw [<-e] at this
 exact (List.pairwise_map.mp this).imp fun {a b} h q=>h (by rw [q])
theorem l8 {Ch:Addr->Prop}:(fun a=>ay a\/Ch a)=Ch:=funext fun a=>propext ⟨fun q=>q.elim (fun q=>q.elim) id,.inr⟩
theorem vE {a:Arguments} {xs:List Nat} (h:td C a=some xs):∃pas pt,a=⟨[],pas,none,[],[],none,pt⟩:=by
 obtain ⟨l1,l2,o1,l3,l4,o2,t⟩:=a
 rcases l1 with _|_<;>rcases o1 with _|_<;>rcases l3 with _|_<;>rcases l4 with _|_<;>rcases o2 with _|_<;>first|exact ⟨_,_,rfl⟩|exact aw h
theorem HD {v x p q d e:Nat} (h1:q=p) (h2:v=x) (h3:d=e) (b:v<=p) (c:d<=p):x - (q - e)=d - (p - v):=by
 subst h1 h2 h3
 rw [Nat.sub_sub_right _ c,Nat.sub_sub_right _ b,Nat.add_comm]
theorem HE {v x p q d e:Nat} (h1:q=p) (h2:v=x) (h3:d=e) (b:p - v<=d):q - e<=x:=by
 subst h1 h2 h3
 exact Nat.sub_le_iff_le_add.2 (Nat.add_comm _ _▸Nat.sub_le_iff_le_add.1 b)
theorem HC {v p d:Nat} (b:v<=p) (c:p - v<=d):p=v+(d - (d - (p - v))):=by rw [Nat.sub_sub_self c,Nat.add_sub_of_le b]
theorem nK {f:Addr} {vs ds:List V} {xs:List Value} {ps:List Nat} {body:List Stmt} {scope:Scope} {ρ:Loc} {Rr:Result->Shared->Prop} (hraw:wi C B f ps ds body scope) (hnl:B.NoLimit) (hroom:A.depth < recursionLimit) (h0:aP I5 w C B fr as hh s)
  (rvs:aj as s.heap vs xs) (hbi:aZ ps vs ds=some ρ)
  (k:∀env I6,env.scope=scope->bP B (env::fr) env->aI I5 w C B fr ay as s as hh I6->aP I5 w C B (env::fr) as hh I6->aF C env ρ as I6.heap->(∀a,aG env a->s.heap.get? a=none)->(∀a o,s.heap.get? a=some o->I6.heap.get? a=some o)->
   wpAny (model I5 w) (A.deeper env) (execs body env) (fun f s'=>Rr (.ok (.ret (match f with|.ret v=>v|_=>.none))) s') (fun e s'=>wpAny (model I5 w) (A.deeper env) (leaving env e) (fun Z s''=>Rr (.error e) s'') (fun e' s''=>Rr (.error e') s'') s') I6):
  codeAny (model I5 w) A (.call (.ref f) ⟨xs,[]⟩) Rr s:=by
 obtain ⟨o,d,g,hd,D⟩:=hraw
 obtain ⟨name,qual,params,dV,kV,doc,pm,cdv,ct,an,rfl,hcd,hargs,hk,hco,hgen,hpar,hnd,hnf,hpn,hdf⟩:=D
 have kB:=h0.R.base
 obtain ⟨pas,pt,hparams⟩:∃pas pt,params=⟨[],pas,none,[],[],none,pt⟩:=by
  exact vE hargs
 subst hparams
 have hids:(pas.map (·.arg)).map C.id=ps.map some:=by
  have:=pV (f:=fun x:Arg=>C.id x.arg) hargs
  rw [<-this,List.map_map];rfl
 have hplen:pas.length=ps.length:=by have:=congrArg List.length hids;simpa using this
 obtain ⟨b1,b2,b3⟩:=ko hbi
 have hxl:=rvs.length
 have hdl:∃dl:List Value,((dV=.none/\dl=[])\/∃T ys,dV=.ref T/\gM s.heap T ys/\dl=ys)/\aj as s.heap ds dl/\ds.length<=ps.length:=by
  rcases hds:ds with _|⟨v,r⟩
  ·rw [hds] at hdf;exact ⟨[],.inl ⟨hdf,rfl⟩,.nil,Nat.zero_le _⟩
  ·rw [hds] at hdf
   obtain ⟨T,ys,e1,⟨o',k',g',c',d',q'⟩,e3,e4⟩:=hdf
   exact ⟨ys,.inr ⟨T,ys,e1,⟨o',k',kB _ _ g',c',d',q'⟩,rfl⟩,(am.mono' (as:=[]) ⟨as,rfl⟩ fun a o e Z=>kB a o e).2 e3,e4⟩
 obtain ⟨dl,hdV,rdl,hdle⟩:=hdl
 have hdll:=rdl.length
 have nd:=oh hids hpn
 have hbind:=xM (s:=s) (fd:=fnOf name qual ⟨[],pas,none,[],[],none,pt⟩ body scope dV kV doc pm an cdv ct) (xs:=xs) (dl:=dl) rfl nd hdV (hplen▸hxl▸b1) (hplen▸hdll▸hdle) (HE hplen hxl hdll b2)
 refine codeAny_call_function hroom (kB _ _ g) hd hco hgen rfl (hcd.keeps kB) (hbind _ _ _ _ ?_)
 show wpAny (model I5 w) A.in1 (newFunctionEnv scope mainGlobals [] _ _ _ _ none builtinsNs) _ _ s
 simp only [newFunctionEnv,Option.isSome_none,Bool.false_eq_true,if_false]
 refine wpAny_bind (wpAny_alloc ?_)
 refine wpAny_bind (wpAny_layCells _ (fun name kind cells=>by cases hkc:kind==NameKind.cell<;>simp [hkc]) _ _ _ _ ?_)
 rw [show ({ s with heap:=s.heap.push { cls:=.type "frame",data:=.dict #[] } }:Shared).heap.objs.size=s.heap.objs.size+1 from Heap.size_push ..]
 obtain ⟨Il,Ie,Ii,SE,dead⟩:=mQ (env:=(newEnv scope s.heap.objs.size mainGlobals (cellsFrom (s.heap.objs.size+1) scope.names []) (qual ++ ".<locals>.") (some f) cdv none builtinsNs)) (s₁:={ s with heap:=pushCells (s.heap.push { cls:=.type "frame",data:=.dict #[] }) scope.names })
  h0 hk hnd hnf rfl rfl rfl rfl
 have r₁:∀{us:List V} {ys:List Value},aj as s.heap us ys->aj as (pushCells (s.heap.push { cls:=.type "frame",data:=.dict #[] }) scope.names) us ys:=fun r=>
  (am.mono' (as:=as) (as':=as) ⟨[],(th as).symm⟩ fun a o e Z=>pushCells_keeps _ _ a o (HV _ e)).2 r
 have hkk:xs.length - (pas.length - dl.length)=ds.length - (ps.length - vs.length):=HD hplen hxl hdll b1 hdle
 obtain ⟨ρ₁,hst⟩:=fS (xs:=ps) (vs:=vs++ds.drop (ds.length - (ps.length - vs.length))) (ρ:=[]) (by rw [List.length_append,List.length_drop];exact HC b1 b2)
 have rall:aj as (pushCells (s.heap.push { cls:=.type "frame",data:=.dict #[] }) scope.names) (vs++ds.drop (ds.length - (ps.length - vs.length))) (xs++dl.drop (xs.length - (pas.length - dl.length))):=by
  rw [hkk]
  exact (r₁ rvs).append ((r₁ rdl).drop _)
 refine wpAny_bind (qm SE _ (fun Z Z Z=>rfl) hids (fun y hy=>?_) hst Ie Ii rall fun I6 I7 Id II=>wpAny_pure ⟨hnl.keeps I7.rel.base,codeAny_func ?_⟩)
 ·obtain ⟨a,ha,rfl⟩:=List.mem_map.mp hy
  exact hpar a ha
 ·have Ij:aF C (newEnv scope s.heap.objs.size mainGlobals (cellsFrom (s.heap.objs.size+1) scope.names []) (qual ++ ".<locals>.") (some f) cdv none builtinsNs) ρ as I6.heap:=by
   refine Id.congr fun i=>?_
   rw [b3,ic hpn hst i]
   exact (Option.or_none).symm
  have pt:aI I5 w C B fr ay as s as hh I6:=Il.under (Ch:=aG _) (by rw [l8];exact I7.tail) dead
  exact k (newEnv scope s.heap.objs.size mainGlobals (cellsFrom (s.heap.objs.size+1) scope.names []) (qual ++ ".<locals>.") (some f) cdv none builtinsNs) I6 rfl SE pt I7.here Ij dead fun a o g=>II a o (fun q=>by rw [dead a q] at g;injection g) (pushCells_keeps _ _ a o (HV _ g))
theorem uL {f:Addr} {vs:List V} {xs:List Value} {lim:Nat} {Q:Value->Shared->Prop} {Rr:Result->Shared->Prop} (FX:aU C P B K) (XF:bx P B) (hA:AOK A fr (n+1)) (CK:cj I5 w C B P (a9 P lim n) n) (h0:aP I5 w C B fr as hh s)
  (rvs:aj as s.heap vs xs) (h:ai I5 w C B (jz P B) fr ay as s (a9 P lim (n+1) (.fn f) vs hh) Q E) (hR:∀v s',Q v s'->Rr (.ok (.ret v)) s') (hE:∀e s',E e s'->Rr (.error e) s'):
  codeAny (model I5 w) A (.call (.ref f) ⟨xs,[]⟩) Rr s:=by
 replace h:ai I5 w C B (jz P B) fr ay as s (bq (P.fn.lookup f) fun fi=>bq (aZ fi.params vs fi.dflts) fun ρ=>(exs P (a9 P lim n) lim fi.body ρ hh).bd qp) Q E:=h
 refine ai.opt h fun fi hfi h=>ai.opt h fun ρ hbi h=>?_
 obtain ⟨body,scope,hraw,hbody⟩:=FX.fn f fi hfi
 refine nK hraw FX.nolimit (by have:=hA.depth;unfold recursionLimit;omega) h0 rvs hbi fun env I6 eS SE pt h₂ Ij dead Z=>?_
 have hA':AOK (A.deeper env) (env::fr) n:=hA.deeper
 refine cz (k:=lim) FX XF hA' CK SE fi.body body (by rw [eS];exact hbody) ρ as hh I6 h₂ Ij _ _ ?_
 rcases hm:exs P (a9 P lim n) lim fi.body ρ hh with ⟨r,Ig⟩|⟨c,Ig⟩|_
 ·rw [hm] at h
  intro as' s₃ fl Ib rr
  have pe:aI I5 w C B fr ay as s as' Ig s₃:=pt.under (Ch:=aG env) (by rw [l8];exact Ib.tail) dead
  obtain ⟨fl',ρ'⟩:=r
  obtain ⟨rf,_⟩:=rr
  cases rf with
  |next=>exact hR _ _ (h as' s₃ _ pe (.inl .none))
  |cont=>exact h.elim
  |ret rv=>exact hR _ _ (h as' s₃ _ pe rv)
 ·rw [hm] at h
  intro s₃ ev e as' B' T
  refine x9 hA'.frames SE.frame T fun h' a0 Fl up=>hE _ _ ?_
  have ei:=T.isRef
  rw [ei] at T⊢
  exact h _ _ _ _ _ (bn.left h0 pt T dead SE.frame Fl up)
 ·rw [hm] at h;exact h.elim
end
end
section
open W PyProof.Rows SeqAt
section
variable {I5:Program} {w:World} {C:CV} {P:PT} {K:Frag} {B:Heap} {fr:List Env} {own:Addr->Prop} {A:Around} {as as' as₀:AS} {s s' s'' Im I6 s₃:Shared} {hh hh':H} {env:Env} {ρ:Loc} {cf:V->List V->PM V} {n k:Nat} {E:Value->Shared->Prop} {c e:Addr} {ev:Value} {B':Heap}
theorem AOK.typeCall {c:Addr} {rest:List Value} (hA:AOK A fr (n+1)):AOK (A.under (.builtin "type.__call__" ⟨.ref c::rest,[]⟩)) fr n:=by
 refine ⟨?_,hA.handled,?_,?_⟩
 ·show pushEnvs [] A.frames=some fr
  rw [hA.frames];rfl
 ·have:=hA.depth
  show A.depth+1+4*n < 900
  omega
 ·have:=hA.units
  show A.units+1+24*n < 9000
  omega
theorem vN {ci:iK} {lim:Nat} {vs:List V} (hc:P.cl.lookup c=some ci) (hx:ci.exc=false):
  a9 P lim (n+1) (.cls c) vs hh=(a9 P lim n (.fn ci.init) (.ref hh.length::vs) (hh++[.inst c []])).bd fun v h=>ifR v.isNone (.ok (.ref hh.length) h):=by
 show bq (P.cl.lookup c) _=_
 rw [hc]
 show (match ci.exc with|true=>_|false=>_:R V)=_
 rw [hx]
theorem A3 {f:Addr} {fi:aA} (FX:aU C P B K) (h0:aP I5 w C B fr as hh s) (hf:P.fn.lookup f=some fi):vY (model I5 w) s.heap (.ref f):=by
 obtain ⟨body,scope,⟨o,fd,g,d,-⟩,-⟩:=FX.fn f fi hf
 obtain ⟨oc,od,odt,osl⟩:=o
 simp only at d
 subst d
 exact ⟨.frame,.inl rfl,by unfold keeperOf;exact (Looks.ld (h0.R.base _ _ g)).andThen .now⟩
theorem xH {ci:iK} {vs:List V} {xs:List Value} {lim:Nat} {Q:Value->Shared->Prop} (FX:aU C P B K) (XF:bx P B) (hA:AOK A fr (n+1)) (CK:∀m,m < n->cj I5 w C B P (a9 P lim m) m) (h0:aP I5 w C B fr as hh s)
  (rvs:aj as s.heap vs xs) (hc:P.cl.lookup c=some ci) (hx:ci.exc=false) (h:ai I5 w C B (jz P B) fr ay as s (a9 P lim (n+1) (.cls c) vs hh) Q E):
  vY (model I5 w) s.heap (.ref c)/\codeAny (model I5 w) A (.call (.ref c) ⟨xs,[]⟩) (fun r s'=>match r with|.ok (.ret v)=>Q v s'|.ok _=>False|.error e=>E e s') s:=by
 have X:K.In s.heap:=fun a o e=>h0.R.base _ _ (FX.frag a o e)
 have CF:=FX.cls c ci hc hx
 refine a7 CF fun CF Z=>?_
 refine a7 CF fun CF c7=>?_
 refine a7 CF fun CF c6=>?_
 refine a7 CF fun Z c5=>?_
 have Y:=makes_of (M:=model I5 w) X c5
 have hi:=looks_findIn (M:=model I5 w) X (eq_of_beq c6)
 have hty:typeIn K (.ref ci.init)=some (.type "function"):=eq_of_beq c7
 refine ⟨?_,?_⟩
 ·obtain ⟨⟨oc,od,cd,sl,hC,_⟩,_,_,_,_,call,_⟩:=Y
  refine ⟨.machine,.inr (.inl rfl),?_⟩
  unfold keeperOf
  exact (Looks.ld hC).andThen (call.andThen .now)
 ·rw [vN hc hx] at h
  rcases n with _|m
  ·exact h.elim
  ·obtain ⟨hp,g,d,tk,os⟩:=s
   have sz:(hp.push emptyDict).objs.size=hp.objs.size+1:=Heap.size_push ..
   have kp:∀a o,hp.get? a=some o->((hp.push emptyDict).push (instObj c hp.objs.size)).get? a=some o:=fun a o e=>ak _ _ _ (ak _ _ _ e)
   have g1:((hp.push emptyDict).push (instObj c hp.objs.size)).get? (hp.objs.size+1)=some (instObj c hp.objs.size):=by rw [<-sz];exact HU _ rfl
   have g2:((hp.push emptyDict).push (instObj c hp.objs.size)).get? hp.objs.size=some emptyDict:=ak _ _ _ (HU _ rfl)
   have ns:(hp.push emptyDict).Ns hp.objs.size fun Z=>none:=Heap.Ns.new hp (.type "dict")
   have n1:hp.get? (hp.objs.size+1)=none:=HW (Nat.le_succ _)
   have n2:hp.get? hp.objs.size=none:=HW (HM _)
   have Il:aI I5 w C B fr ay as ⟨hp,g,d,tk,os⟩ (as++[(hp.objs.size+1,hp.objs.size)]) (hh++[.inst c []]) ⟨(hp.push emptyDict).push (instObj c hp.objs.size),g,d,tk,os⟩:=
    aI.add (s':=⟨(hp.push emptyDict).push (instObj c hp.objs.size),g,d,tk,os⟩) h0 kp n1 n2 ⟨HO (HS _),g1,⟨_,g2,rfl⟩,fun Z=>none,Heap.Ns1.of_empty (ns.keeps (ak _)),fun y q=>absurd rfl q,fun x y Z=>rfl⟩ rfl rfl ⟨id,id⟩
   refine make_core Y hi (fun self=>bind_fn X self hty) (.inl rfl) ?_
   have rel:aj (as++[(hp.objs.size+1,hp.objs.size)]) ((hp.push emptyDict).push (instObj c hp.objs.size)) (.ref hh.length::vs) (.ref (hp.objs.size+1)::xs):=
    .cons (fc h0.R.len (hp.objs.size+1,hp.objs.size)) ((am.mono' (as:=as) (as':=as++[(hp.objs.size+1,hp.objs.size)]) (h:=hp) ⟨_,rfl⟩ fun a o e Z=>kp a o e).2 rvs)
   have Ie:=ai.after h0 Il h
   refine uL (Q:=fun v s'=>v=.none/\Q (.ref (hp.objs.size+1)) s') (E:=E) FX XF hA.typeCall (CK m (HS _)) Il.here rel (ai.fst Il.here ⟨fun Z q=>q.elim,fun Z Z q=>q.elim,fun Z q=>q.elim⟩ Ie fun v Ig Ia I6 x Z I7 rv h₂=>?_) (fun v s' q=>q) (fun e s' q=>q)
   refine ai.ifr h₂ fun hn h₂=>?_
   rcases rv with rv|⟨c',a,ci',e1,_⟩
   ·rw [V.isNone_of hn] at rv
    refine ⟨rv.inv,h₂ Ia I6 _ ⟨dh.refl ..,I7.rel,I7.frs,rfl,rfl⟩ (.inl ?_)⟩
    exact (am.mono' I7.step.pre fun Z Z e Z=>e).1 (fc (as:=as) (h:=I6.heap) h0.R.len (hp.objs.size+1,hp.objs.size))
   ·rw [e1] at hn;injection hn
variable (I5 w C B P) in
def mL:Prop:=∀A fr as hh (s:Shared) c (vs:List V) (xs:List Value) (Q:Value->Shared->Prop) (E:Value->Shared->Prop),AOK A fr 1->isX P c=true->aP I5 w C B fr as hh s->aj as s.heap vs xs->((∃a,vs=[.str a])\/∃a b,vs=[.str a,b])->
 (∀as' s' a,aI I5 w C B fr ay as s as' hh s'->n7 s'.heap a c->B.get? a=none->Q (.ref a) s')->vY (model I5 w) s.heap (.ref c)/\wpAny (model I5 w) A (call (.ref c) xs) Q E s
theorem V.isStr_of {v:V} (h:v.isStr=true):∃z,v=.str z:=isT.to (p:=∃z,v=.str z) (by clear h;rcases v with _|_<;>first|exact trivial|exact ⟨_,rfl⟩) h
theorem rF {vs:List V} (h:kM vs=true):(∃a,vs=[.str a])\/∃a b,vs=[.str a,b]:=by
 rcases vs with _|⟨v,r⟩
 ·injection h
 ·refine a7 h fun h1 h2=>?_
  obtain ⟨z,e⟩:=V.isStr_of h1
  rw [e]
  match r,of_decide_eq_true h2 with
  |[],_=>exact .inl ⟨z,rfl⟩
  |[b],_=>exact .inr ⟨z,b,rfl⟩
  |_::_::_,h=>exact absurd h (by simp)
theorem AOK.less {m:Nat} (hA:AOK A fr n) (h:m<=n):AOK A fr m:=⟨hA.frames,hA.handled,by have:=hA.depth;omega,by have:=hA.units;omega⟩
theorem B3 (FX:aU C P B K) (XF:bx P B) (XC:mL I5 w C P B) (lim:Nat):∀n,cj I5 w C B P (a9 P lim n) n:=by
 intro n
 induction n using Nat.strongRecOn with
 |_ n ih=>
  intro A fr as hh s v x vs xs hA h0 rv rvs Q E h
  rcases n with _|n
  ·exact h.elim
  ·induction v using V.casesOn with
   |fn f=>
    rw [show x=_ from rv.inv]
    refine ⟨?_,wpAny_call (uL FX XF hA (ih n (HS _)) h0 rvs h (fun Z Z q=>q) fun Z Z q=>q)⟩
    replace h:ai I5 w C B (jz P B) fr ay as s (bq (P.fn.lookup f) _) Q E:=h
    exact ai.opt h fun fi hf Z=>A3 FX h0 hf
   |cls c=>
    rw [show x=_ from rv.inv]
    have h2:ai I5 w C B (jz P B) fr ay as s (bq (P.cl.lookup c) fun ci=>match ci.exc with
     |true=>ifR (kM vs) (.ok (.exc c) hh)
     |false=>(a9 P lim n (.fn ci.init) (.ref hh.length::vs) (hh++[.inst c []])).bd fun v h'=>ifR v.isNone (.ok (.ref hh.length) h')) Q E:=h
    refine ai.opt h2 fun ci hc h2=>?_
    rcases hx:ci.exc with _|_
    ·obtain ⟨k,q⟩:=xH FX XF hA (fun m hm=>ih m (Nat.lt_succ_of_lt hm)) h0 rvs hc hx h
     exact ⟨k,wpAny_call q⟩
    ·rw [hx] at h2
     refine ai.ifr h2 fun hs h2=>?_
     exact XC A fr as hh s c vs xs Q E (hA.less (Nat.succ_le_succ (Nat.zero_le _))) (yu hc hx) h0 rvs (rF hs) fun as' s' a p hex hB=>h2 as' s' _ p (.inr ⟨c,a,ci,rfl,rfl,hex,hB,hc,hx⟩)
   |_=>exact h.elim
end
end
section
open W PyProof.Rows SeqAt Builtin Builtin.ObjectAttr Builtin.Getset_descriptor
noncomputable abbrev cr (L:Addr):List Value:=[.ref L,.type "Exception",.type "BaseException",.type "object"]
structure qA (K:Frag) (c L fI:Addr):Prop where
 obj:∃nm q N bs sn sub ab col dd k0 k1 k2 k3 k5,K.lookup c=some (excClassObj nm q c N bs (cr L) true sn sub ab col dd k0 k1 k2 k3 k5 "Exception.__new__")
 set:findIn K (.ref c) "__setattr__" = some (some (.builtin "object.__setattr__"))
 init:findIn K (.ref c) "__init__" = some (some (.ref fI))
 fn:isFn K (.ref fI)=true
 what:takerIn K c "what" = some none
 at_:takerIn K c "at" = some none
theorem r5 (self:Value) (a b:Addr):refuseLoop self "__setattr__" (.ref a::cr b)=pure ():=by
 rw [refuseLoop_ref,refuseLoop_ref]
 kernel_rfl
section
variable {I5:Program} {w:World} {C:CV} {P:PT} {K:Frag} {B:Heap} {fr:List Env} {A:Around} {s:Shared} {E:Value->Shared->Prop} {c L fI e:Addr}
theorem rl {pl:Sem Bool} {Q:Value×List Value->Shared->Prop} (X:K.In s.heap) (h:∀u,Q (.builtin "Exception.__init__",[]) { s with toks:=u }):wpAny (model I5 w) A (getMethod (.type "Exception") "__init__" pl) Q E s:=by
 have L0:Looks (model I5 w) s.heap (typeOf (.type "Exception")) (.type "type"):=Looks.of_pure (kitMeta_of (by decide +kernel))
 have hg:findIn K (.type "type") "__getattribute__" = some (some (.builtin "type.__getattribute__")):=type_tga
 have LO:Looks (model I5 w) s.heap (opaqueClassAbove (.type "Exception")) none:=Looks.of_pure (by unfold opaqueClassAbove;dsimp only;rw [show Manifest.isStub "Exception" = false by decide +kernel];rfl)
 have e:findCls K (.type "Exception") (.type "type") "__init__" = some (.val (.builtin "Exception.__init__")):=by kernel_rfl
 unfold getMethod
 dsimp only
 refine wpAny_bind ((L0.andThen (looks_findIn X hg)).here ?_)
 dsimp only
 rw [if_pos (by decide +kernel)]
 refine wpAny_bind ?_
 refine cls_open X LO L0 hg (looks_hook X (r:=none) (by rfl)) (by show PySem.W.subIn K _ _=_;rfl) e ?_
 show wpAny _ _ (ret _) _ _ _
 exact wpAny_pure (handed_on rfl (wpAny_pure (h _)))
theorem jI {M:Model} {nm q:Str} {N:Addr} {bs bm:List Value} {hdct:Bool} {sn:List Str} {sub:List Value} {ab:Bool} {col:Option Bool} {dd:Option Addr} {k0 k1 k2 k3 k5:Option Value} {newId:String} {oe:Obj} {rest:List Value} {Q:Unit->Shared->Prop}
  (hcB:bm.contains (.type "Exception")=true) (hC:s.heap.get? c=some (excClassObj nm q c N bs bm hdct sn sub ab col dd k0 k1 k2 k3 k5 newId)) (he:s.heap.get? e=some oe) (hcls:oe.cls=.ref c) (hq:Q () s):
  wpAny M A (checkBuiltinCall "Exception.__init__" ⟨.ref e::rest,[]⟩) Q E s:=by
 have F:=PySem.F.excBase_Exception
 have hcB':(Value.ref c::bm).contains (.type "Exception")=true:=by rw [List.contains_cons,hcB,Bool.or_true]
 have hshort:=F.noStar
 obtain ⟨hp,g,d,tk,os⟩:=s
 simp only [checkBuiltinCall,F.initKind,F.initSplit,F.initRow]
 repeat (first|(with_reducible refine wpAny_loadPart_at he ?_;rw [hcls])|with_reducible refine wpAny_loadPart_at hC ?_|(with_reducible refine wpAny_isSubtype_exc hC ?_;rw [hcB'])|wp_step)
 refine wpAny_onRaise ?_
 rw [show ∀(a b:String) (n:Nat),Bind.check ⟨.positional,"*","Exception",.self,[⟨"args",.varPos,false⟩]⟩ a b n (List.map (fun x=>x.fst) ({ pos:=Value.ref e::rest }:Args).kw)=pure () from
  fun a b n=>check_star_args _ _ _ _ _ _]
 exact wpAny_pure hq
theorem lq {nm q:Str} {N:Addr} {bs bm:List Value} {hdct:Bool} {sn:List Str} {sub:List Value} {ab:Bool} {col:Option Bool} {dd od:Option Addr} {k0 k1 k2 k3 k5:Option Value} {newId:String} {v:Value} {vs:Array Value} {sl:Array (Option Value)} {Q:Value->Shared->Prop}
  (hcB:bm.contains (.type "Exception")=true) (hC:s.heap.get? c=some (excClassObj nm q c N bs bm hdct sn sub ab col dd k0 k1 k2 k3 k5 newId)) (he:s.heap.get? e=some ⟨.ref c,od,.fields vs,sl⟩) {t0:Addr} (hv0:vs[0]?=some (.ref t0))
  (h:∀h' T,h'.get? e=some ⟨.ref c,od,.fields (vs.setIfInBounds 0 (.ref T)),sl⟩->(∀a o,a≠e->s.heap.get? a=some o->h'.get? a=some o)->Q .none { s with heap:=h' }):wpAny (model I5 w) A (call (.builtin "Exception.__init__") [.ref e,v]) Q E s:=by
 have F:=PySem.F.excBase_Exception
 refine wpAny_call (codeAny_call_builtin F.init.plain F.initEntry (jI hcB hC he rfl ?_))
 obtain ⟨hp,g,d,tk,os⟩:=s
 have he':=HV { cls:=.type "tuple",data:=.seq [v].toArray } he
 have hsz:=(Array.getElem?_eq_some_iff.mp hv0).1
 unfold Builtin.«BaseException.__init__»
 refine wpAny_bind (wpAny_newTuple ?_)
 refine wpAny_bind ?_
 unfold Builtin.BaseException.bexcPut
 refine wpAny_bind (wpAny_field he' rfl hv0 (wpAny_bind (wpAny_setField he' rfl hsz ?_)))
 refine wpAny_letGo ?_
 refine wpAny_pure ?_
 exact h _ _ (HX _ he' rfl) fun a o ne g=>(Heap.get?_update_other _ _ (Ne.symm ne)).trans (ak _ _ _ g)
theorem kj {D:Addr} {m:Str->Option Value} {names:List Str} {y:Str} {tk:Tok} {v:Value} {o:Obj} {Q:Fin->Shared->Prop} (hn:s.heap.Ns1 D m) (hw:Within m names) (hy:y∈names) (hl:names.length<=1000) (g:s.heap.get? D=some o)
  (h:∀h',h'.Ns1 D (fun x=>if x=y then some v else m x)->Heap.SameBut D s.heap h'->Q (.done (.ret .none)) { s with heap:=h',toks:=s.toks+1 }):wpAny (model I5 w) A (Builtin.ObjectAttr.storeInDict D (.str y tk) y v) Q E s:=by
 unfold Builtin.ObjectAttr.storeInDict Builtin.ObjectAttr.newKeyGuard
 refine wpAny_bind (wpAny_pure (wpAny_bind (k8 hn g fun h' oD' hn' hs hoD' cD' hE=>?_)))
 have hwi:Within (fun x=>if x=y then some v else m x) names:=by
  intro u hu
  by_cases e:u=y
  ·subst e;exact hy
  ·simp only [if_neg e] at hu;exact hw u hu
 obtain ⟨oD,esD,epD,hoD,hdD,hcD⟩:=hn'.count hwi
 refine wpAny_bind (wpAny_lookBehind hoD (by rw [hdD];exact pastItsLine_dict (HN hcD (by rw [sizeLine_eq];omega))) ?_)
 exact wpAny_pure (h h' hn' hs)
theorem uC {ox:Obj} {od:Option Obj} {name:Str} {tk:Tok} {v:Value} {Rr:Result->Shared->Prop} (X:K.In s.heap) (XI:qA K c L fI) (I:InstAt s.heap e ox c od) (ht:takerIn K c name=some none)
  (h:∀b,wpAny (model I5 w) A.in1 (Builtin.ObjectAttr.storeInOwnDict (.ref e) (.ref c) (.str name tk) name v b)
   (fun fin s'=>match fin with|.done f=>Rr (.ok f) s'|.again c'=>c'.quiet=true/\codeAny (model I5 w) A c' Rr s') (fun e s'=>Rr (.error e) s') s):
  codeAny (model I5 w) A (.call (.builtin "object.__setattr__") ⟨[.ref e,.str name tk,v],[]⟩) Rr s:=by
 have SF:=PySem.F.store_object
 obtain ⟨nm,q,N,bs,sn,sub',ab,col,dd,k0,k1,k2,k3,k5,hC⟩:=XI.obj
 have hcl:clsIn K c=some { name:=nm,bases:=bs,mro:=.ref c::cr L,ns:=N,qualname:=q,hasDict:=true,slotNames:=sn,subclasses:=sub',abstract:=ab,collection:=col,hasDel:=false }:=by
  unfold clsIn;rw [hC]
 have sub:Looks (model I5 w) s.heap (isInstance (.ref e) (.type "object")) true:=I.type.andThen (looks_mroIn X (by unfold mroIn;rw [hcl];rfl))
 refine codeAny_call_builtin SF.slot.plain SF.entry (@check_slot (model I5 w) _ _ s "object.__setattr__" "object" "__setattr__" (.ref e) [.str name tk,v] [] _ SF.kind SF.split sub (SF.args (.ref e) (.str name tk) v) ?_)
 obtain ⟨attr,ha,hr⟩:=Option.bind_eq_some_iff.mp ht
 have hm:Looks (model I5 w) s.heap (mroOf (.ref c)) (.ref c::cr L):=(looks_clsIn X hcl).andThen .now
 have L3:Looks (model I5 w) s.heap (storeTaker? attr) none:=by
  rcases attr with _|a
  ·exact .now
  ·obtain ⟨b,hb,hb'⟩:=Option.map_eq_some_iff.mp hr
   refine (looks_takesIn X hb).andThen ?_
   rcases b with _|_
   ·exact .now
   ·injection hb'
 rw [osa_eq,refuse_eq]
 refine wpAny_bind (wpAny_bind (I.type.here (wpAny_bind (hm.here ?_))))
 rw [r5]
 refine wpAny_pure (wpAny_bind (I.type.here (wpAny_bind ((looks_findIn X ha).here (wpAny_bind (L3.here ?_))))))
 exact h _
theorem uB {y:Str} {v:Value} {od:Option Addr} {vs:Array Value} {sl:Array (Option Value)} {names:List Str} {Q:Unit->Shared->Prop} (X:K.In s.heap) (XI:qA K c L fI) (ht:takerIn K c y=some none) (ge:s.heap.get? e=some ⟨.ref c,od,.fields vs,sl⟩)
  (hd:od=none\/∃D m o,od=some D/\D≠e/\s.heap.get? D=some o/\s.heap.Ns1 D m/\Within m names) (hy:y∈names) (hl:names.length<=1000)
  (hQ:∀h' tk D m',(∀a o,a≠e->od≠some a->s.heap.get? a=some o->h'.get? a=some o)->h'.get? e=some ⟨.ref c,some D,.fields vs,sl⟩->D≠e->(od=none->s.heap.get? D=none)->(∀D',od=some D'->D=D')->h'.Ns1 D m'->Within m' names->Q () { s with heap:=h',toks:=tk }):wpAny (model I5 w) A (PySem.setAttr (.ref e) y v) Q E s:=by
 obtain ⟨nm,q,N,bs,sn,sub',ab,col,dd,k0,k1,k2,k3,k5,hC⟩:=XI.obj
 have hcl:clsIn K c=some { name:=nm,bases:=bs,mro:=.ref c::cr L,ns:=N,qualname:=q,hasDict:=true,slotNames:=sn,subclasses:=sub',abstract:=ab,collection:=col,hasDel:=false }:=by
  unfold clsIn;rw [hC]
 have fin:∀(m:Str->Option Value) (h':Heap) (D:Addr),Within m names->Within (fun x=>if x=y then some v else m x) names:=fun m h' D hw u hu=>by
  by_cases e:u=y
  ·subst e;exact hy
  ·simp only [if_neg e] at hu;exact hw u hu
 rcases hd with rfl|⟨D,m,o,rfl,hDe,gD,hn,hw⟩
 ·have I:InstAt s.heap e ⟨.ref c,none,.fields vs,sl⟩ c none:=⟨ge,rfl,rfl,trivial⟩
  refine set_plain X I XI.set (uC (s:={ s with toks:=s.toks+1 }) X XI I ht fun b=>?_)
  have X1:K.In ({ s with toks:=s.toks+1 }:Shared).heap:=X
  refine wpAny_bind (wpAny_pure (wpAny_bind (wpAny_bind (wpAny_loadPart ge (wpAny_bind ((looks_clsIn X1 hcl).here ?_))))))
  have he1:(s.heap.push { cls:=.type "dict",data:=.dict #[] }).get? e=some ⟨.ref c,none,.fields vs,sl⟩:=ak _ _ _ ge
  have hlt:e≠s.heap.objs.size:=HO (Heap.lt_size ge)
  refine wpAny_bind (wpAny_alloc (wpAny_bind (wpAny_update he1 (wpAny_pure ?_))))
  have g1:((s.heap.push { cls:=.type "dict",data:=.dict #[] }).update e fun o=>{ o with dict:=some s.heap.objs.size }).get? s.heap.objs.size=some emptyDict:=(Heap.get?_update_other _ _ hlt).trans (HU _ rfl)
  have ge1:((s.heap.push { cls:=.type "dict",data:=.dict #[] }).update e fun o=>{ o with dict:=some s.heap.objs.size }).get? e=some ⟨.ref c,some s.heap.objs.size,.fields vs,sl⟩:=HX _ he1 rfl
  have ns:((s.heap.push { cls:=.type "dict",data:=.dict #[] }).update e fun o=>{ o with dict:=some s.heap.objs.size }).Ns1 s.heap.objs.size fun Z=>none:=
   Heap.Ns1.of_empty ((Heap.Ns.new s.heap (.type "dict")).sameBut (Heap.SameBut.update ..) (Ne.symm hlt))
  refine kj (s:={ s with heap:=(s.heap.push { cls:=.type "dict",data:=.dict #[] }).update e fun o=>{ o with dict:=some s.heap.objs.size },toks:=s.toks+1 }) ns (fun u q=>absurd rfl q) hy hl g1 fun h' hn' hs=>?_
  refine hQ h' _ s.heap.objs.size _ (fun a o ne Z g=>?_) ((hs.2 e hlt).trans ge1) (Ne.symm hlt) (fun Z=>HW (HM _)) (fun D' q=>by injection q) hn' (fin _ h' 0 fun u q=>absurd rfl q)
  exact (hs.2 a (HO (Heap.lt_size g))).trans ((Heap.get?_update_other _ _ (Ne.symm ne)).trans (ak _ _ _ g))
 ·have I:InstAt s.heap e ⟨.ref c,some D,.fields vs,sl⟩ c (some o):=⟨ge,rfl,rfl,gD⟩
  refine set_plain X I XI.set (uC (s:={ s with toks:=s.toks+1 }) X XI I ht fun b=>?_)
  have X1:K.In ({ s with toks:=s.toks+1 }:Shared).heap:=X
  refine wpAny_bind (wpAny_pure (wpAny_bind (wpAny_bind (wpAny_loadPart ge (wpAny_bind ((looks_clsIn X1 hcl).here ?_))))))
  refine wpAny_pure (a:=some D) ?_
  refine kj (s:={ s with toks:=s.toks+1 }) hn hw hy hl gD fun h' hn' hs=>?_
  exact hQ h' _ D _ (fun a o' ne nD g=>(hs.2 a (fun q=>nD (q▸rfl))).trans g) ((hs.2 e (Ne.symm hDe)).trans ge) hDe (fun q=>by injection q) (fun D' q=>by cases q;rfl) hn' (fin m h' D hw)
end
end
section
open W PyProof.Rows SeqAt
section
variable {I5:Program} {w:World} {C:CV} {P:PT} {K:Frag} {B:Heap} {fr:List Env} {own:Addr->Prop} {A:Around} {as as':AS} {s s':Shared} {hh hh':H} {env:Env} {ρ:Loc} {E:Value->Shared->Prop} {c L fI e:Addr}
theorem aI.wide {own':Addr->Prop} {hh':H} (p:aI I5 w C B fr own as s as hh' s') (k:∀a,own a->own' a):aI I5 w C B fr own' as s as hh' s':=⟨p.step.wide k,p.rel,p.frs,p.gens,p.os⟩
theorem fb {x:Str} {i:Nat} {v:V} {pos:Pos} {Q:Value->Shared->Prop} (FX:aU C P B K) (N:aF C env ρ as s.heap) (hk:env.scope.names.lookup x=some .local) (hi:C.id x=some i) (hl:ρ.lookup i=some v) (h:∀z,am as s.heap v z->Q z s):
  wpAny (model I5 w) A (eval (.Name x pos) env) Q E s:=by
 obtain ⟨m,hns,hloc⟩:=N.loc
 obtain ⟨z,e,rv⟩:=hloc x i v hi hk hl
 exact wpAny_Name (wpAny_loadName_local N.kind hk hns e (h z rv)) (FX.names x i hi).1
theorem vm {x:Str} {v:V} {pos:Pos} {Q:Value->Shared->Prop} (FX:aU C P B K) (h0:aP I5 w C B fr as hh s) (N:aF C env ρ as s.heap) (hk:env.scope.names.lookup x=some .globalImplicit) (hg:C.gl.lookup x=some v) (h:∀z,am as s.heap v z->Q z s):
  wpAny (model I5 w) A (eval (.Name x pos) env) Q E s:=by
 obtain ⟨mg,mb,G,Bl,hgl⟩:=FX.glob
 obtain ⟨hd,z,hz,rv⟩:=hgl x v hg
 have q:=h z (rv.static h0.R)
 have G':s.heap.Ns env.globals mg:=by rw [N.glob];exact G.keeps h0.R.base
 have B':s.heap.Ns env.builtins mb:=by rw [N.blt];exact Bl.keeps h0.R.base
 rcases hz with hz|⟨hz,hz2⟩
 ·exact Calls.Name_function_global N.kind hk (Calls.loadGlobal_global G' hz q) hd
 ·exact Calls.Name_function_global N.kind hk (Calls.loadGlobal_builtin G' hz B' hz2 q) hd
def qo (body:List Stmt):Prop:=∃p1 p2 p3 p4 p5 p6 p7 p8 p9 p10 q1 q2 q3 q4:Pos,p2.endLine=p5.line/\
 body=[.Expr (.Call (.Attribute (.Name "Exception" p1) "__init__" p2) [.Name "self" p3,.Name "what" p4] [] p5) p6,
  .Assign [.Attribute (.Name "self" p7) "what" p8] (.Name "what" p9) p10,.Assign [.Attribute (.Name "self" q1) "at" q2] (.Name "at" q3) q4]
structure ExcInit (C:CV) (B:Heap) (fI:Addr):Prop where
 raw:∃body scope i0 i1 i2,wi C B fI [i0,i1,i2] [.tup [.int 0,.int 0]] body scope/\qo body/\C.id (Str.ofString "self")=some i0/\C.id (Str.ofString "what")=some i1/\C.id (Str.ofString "at")=some i2/\
  scope.names.lookup (Str.ofString "self")=some .local/\scope.names.lookup (Str.ofString "what")=some .local/\scope.names.lookup (Str.ofString "at")=some .local/\scope.names.lookup (Str.ofString "Exception")=some .globalImplicit
 gl:C.gl.lookup (Str.ofString "Exception")=some (.bt .exception)
def C7 (h:Heap) (e c:Addr) (od:Option Addr):Prop:=∃vs sl t0,h.get? e=some ⟨.ref c,od,.fields vs,sl⟩/\vs[0]?=some (.ref t0)/\vs[1]?=some .none
theorem mS {v0:List Nat} {vs':List V} {xs:List Value} {Rr:Result->Shared->Prop} (FX:aU C P B K) (EI:ExcInit C B fI) (XI:qA K c L fI) (hA:AOK A fr 0) (h0:aP I5 w C B fr as hh s) (rvs:aj as s.heap vs' xs) (hsh:vs'=[.str v0]\/∃b,vs'=[.str v0,b])
  (hB:B.get? e=none) (hoff:¬foot as e) (hx:C7 s.heap e c none)
  (hQ:∀s',aI I5 w C B fr (fun a=>a=e\/s.heap.get? a=none) as s as hh s'->(∃od,C7 s'.heap e c od)->Rr (.ok (.ret .none)) s'):codeAny (model I5 w) A (.call (.ref fI) ⟨.ref e::xs,[]⟩) Rr s:=by
 obtain ⟨body,scope,i0,i1,i2,hraw,⟨p1,p2,p3,p4,p5,p6,p7,p8,p9,p10,q1,q2,q3,q4,hpos,rfl⟩,n0,n1,n2,l0,l1,l2,l3⟩:=EI.raw
 have hne:i0≠i1/\i0≠i2/\i1≠i2:=⟨fun q=>by have:=CV.id_inj n0 (q▸n1);revert this;decide,fun q=>by have:=CV.id_inj n0 (q▸n2);revert this;decide,fun q=>by have:=CV.id_inj n1 (q▸n2);revert this;decide⟩
 obtain ⟨ρ,vb,hbi,hl0,hl1,hl2⟩:∃ρ vb,aZ [i0,i1,i2] (.fn e::vs') [.tup [.int 0,.int 0]]=some ρ/\ρ.lookup i0=some (.fn e)/\ρ.lookup i1=some (.str v0)/\ρ.lookup i2=some vb:=by
  rcases hsh with rfl|⟨b,rfl⟩
  ·refine ⟨[(i0,.fn e),(i1,.str v0),(i2,.tup [.int 0,.int 0])],.tup [.int 0,.int 0],rfl,bj,?_,?_⟩
   ·rw [b8 (Ne.symm hne.1),bj]
   ·rw [b8 (Ne.symm hne.2.1),b8 (Ne.symm hne.2.2),bj]
  ·refine ⟨[(i0,.fn e),(i1,.str v0),(i2,b)],b,rfl,bj,?_,?_⟩
   ·rw [b8 (Ne.symm hne.1),bj]
   ·rw [b8 (Ne.symm hne.2.1),b8 (Ne.symm hne.2.2),bj]
 refine nK hraw FX.nolimit (by have:=hA.depth;unfold recursionLimit;omega) h0 (.cons (.fn e) rvs) hbi fun env I6 eS SE pt h₂ N dead kp=>?_
 have ek0:env.scope.names.lookup (Str.ofString "self")=some .local:=by rw [eS];exact l0
 have ek1:env.scope.names.lookup (Str.ofString "what")=some .local:=by rw [eS];exact l1
 have ek2:env.scope.names.lookup (Str.ofString "at")=some .local:=by rw [eS];exact l2
 have ek3:env.scope.names.lookup (Str.ofString "Exception")=some .globalImplicit:=by rw [eS];exact l3
 have sub:∀a o,s.heap.get? a=some o->(I6.heap.get? a).isSome=true:=fun a o g=>pt.step.live a (by rw [g];rfl) id
 obtain ⟨nm,q,N',bs,sn,sub',ab,col,dd,k0,k1,k2,k3,k5,hKC⟩:=XI.obj
 have hu:(A.deeper env).handled=none:=hA.handled
 obtain ⟨vs,sl,t0,gs,e0,e1⟩:=hx
 have ge:=kp _ _ gs
 have XB:K.In I6.heap:=FX.frag.keeps h₂.R.base
 have SBe:iQ env (·=e):=by
  refine ⟨fun q=>?_,fun y c' hk hc q=>?_⟩
  ·obtain ⟨m,⟨o,es,ep,g,d,_⟩,_⟩:=N.loc
   rw [q,ge] at g;(injection g with g;subst g);injection d
  ·obtain ⟨c'',o,z,e',g,d⟩:=N.cellAt y hk
   rw [hc] at e';(injection e' with e';subst e')
   rw [q,ge] at g;(injection g with g;subst g);injection d
 have notOwn_e:¬aG env e:=fun q=>by rw [dead e q] at gs;injection gs
 have eqs:∀z,am as I6.heap (.fn e) z->z=.ref e:=fun z r=>r.inv
 refine wpAny_execs_cons ?_
 refine wpAny_Expr_any ?_ (by unfold interactive;rw [N.kind];rfl) rfl
 rw [arm_eval_Call]
 rw [show attributeBase (.Name (Str.ofString "Exception") p1) (Str.ofString "__init__") env (eval (.Name (Str.ofString "Exception") p1) env)=eval (.Name (Str.ofString "Exception") p1) env from rfl]
 refine wpAny_bind (vm FX h₂ N ek3 EI.gl fun z rz=>?_)
 rw [show z=_ from rz.inv]
 refine wpAny_bind (wpAny_standAt ?_)
 have hl:dK I5 w C P B (env::fr) (A.deeper env) env ρ (fun Z Z Z=>.bad) [.Name (Str.ofString "self") p3,.Name (Str.ofString "what") p4] [.loc i0,.loc i1]:=
  .cons rfl (oW FX n0 (by rw [ek0];rfl)) (.cons rfl (oW FX n1 (by rw [ek1];rfl)) .nil)
 have h2:=(dH (env:=env) (pos:=p5) hl).2
 have hform:methodCallForm (([Expr.Name (Str.ofString "self") p3,.Name (Str.ofString "what") p4]:List Expr).length+([]:List Keyword).length) (backTo p5 (starEach [Expr.Name (Str.ofString "self") p3,.Name (Str.ofString "what") p4] env)) (backToKw p5 (keywordEach [] env))=true:=by
  unfold methodCallForm
  rw [h2]
  have k0:keywordEach [] env=[]:=rfl
  simp [backToKw,k0]
 have hpos':methodCallPos true (.Name (Str.ofString "Exception") p1) env p2 p5=pure p5:=by unfold methodCallPos;simp [hpos]
 unfold methodCall
 rw [hform]
 refine wpAny_bind (wpAny_holding (rl XB fun u=>?_))
 refine wpAny_bind (wpAny_of_eq hpos' ?_)
 refine df hl ?_
 have Jp:aP I5 w C B (env::fr) as hh { I6 with toks:=u }:=⟨h₂.R,h₂.F⟩
 refine Calls.spliced_cons (fb (s:={ I6 with toks:=u }) FX N ek0 n0 hl0 fun z0 r0=>?_)
 refine Calls.spliced_cons (fb (s:={ I6 with toks:=u }) FX N ek1 n1 hl1 fun z1 r1=>?_)
 refine Calls.spliced_nil ⟨cB _,?_⟩
 obtain rfl:=eqs z0 r0
 refine lq (s:={ I6 with toks:=u }) (bm:=cr L) rfl (XB _ _ hKC) ge e0 fun Ic T g3 k3=>?_
 have n6:∀{σ:Shared} {od:Option Addr} {us:Array Value},aP I5 w C B (env::fr) as hh σ->σ.heap.get? e=some ⟨.ref c,od,.fields us,sl⟩->Own B (env::fr) (·=e) as σ.heap:=fun {σ od us} hσ g=>by
  refine ⟨fun a q=>by rw [q];exact hB,fun a q=>by rw [q];exact hoff,fun a q=>?_,fun a q f=>?_⟩
  ·rw [q]
   refine ⟨_,g,?_⟩
   rintro (⟨d,_⟩|⟨d,_⟩)<;>cases d
  ·rw [q] at f
   obtain ⟨o,g',cl,_⟩:=hσ.F.frame_alive f
   rw [g] at g';cases g';cases cl
 have k3':∀b o,¬(b=e)->I6.heap.get? b=some o->Ic.get? b=some o:=fun b o ne g=>k3 b o ne g
 have Ib:aI I5 w C B (env::fr) (fun a=>aG env a\/a=e) as I6 as hh { I6 with heap:=Ic,toks:=u }:=aI.but (s':={ I6 with heap:=Ic,toks:=u }) (own:=aG env) h₂ (n6 h₂ ge) k3' rfl rfl
 have Ij:aF C env ρ as Ic:=N.but SBe (n6 h₂ ge).at_ k3'
 have Iw:=Ib.here
 have X3:K.In Ic:=FX.frag.keeps Iw.R.base
 have hsz:=(Array.getElem?_eq_some_iff.mp e0).1
 have f0:(vs.setIfInBounds 0 (.ref T))[0]?=some (.ref T):=by simp [hsz]
 have f1:(vs.setIfInBounds 0 (.ref T))[1]?=some .none:=by rw [Array.getElem?_setIfInBounds];simpa using e1
 refine wpAny_execs_cons ?_
 refine plainObj_wpAny_Assign_Attribute (fb (s:={ I6 with heap:=Ic,toks:=u }) FX Ij ek1 n1 hl1 fun y1 Z=>fb (s:={ I6 with heap:=Ic,toks:=u }) FX Ij ek0 n0 hl0 fun y0 ry0=>?_) rfl
 have ey0:y0=.ref e:=ry0.inv
 subst ey0
 refine uB (s:={ I6 with heap:=Ic,toks:=u }) (names:=[Str.ofString "what",Str.ofString "at"]) X3 XI XI.what g3 (.inl rfl) (.head _) (by decide) fun Iq Ix D Jg k4 g4 hDe hDd Z hn4 hw4=>?_
 have hDd:=hDd rfl
 have k4':∀b o,¬(b=e)->Ic.get? b=some o->Iq.get? b=some o:=fun b o ne g=>k4 b o ne (by intro q;cases q) g
 have Ip:aI I5 w C B (env::fr) (fun a=>aG env a\/a=e) as { I6 with heap:=Ic,toks:=u } as hh { I6 with heap:=Iq,toks:=Ix }:=aI.but (s:={ I6 with heap:=Ic,toks:=u }) (s':={ I6 with heap:=Iq,toks:=Ix }) (own:=aG env) Iw (n6 Iw g3) k4' rfl rfl
 have IH:aF C env ρ as Iq:=Ij.but SBe (n6 Iw g3).at_ k4'
 have IU:=Ip.here
 have X4:K.In Iq:=FX.frag.keeps IU.R.base
 refine wpAny_execs_cons ?_
 refine plainObj_wpAny_Assign_Attribute (fb (s:={ I6 with heap:=Iq,toks:=Ix }) FX IH ek2 n2 hl2 fun y1 Z=>fb (s:={ I6 with heap:=Iq,toks:=Ix }) FX IH ek0 n0 hl0 fun y0 ry0=>?_) rfl
 have ey0:y0=.ref e:=ry0.inv
 subst ey0
 obtain ⟨oD,esD,epD,gD,dD,rD⟩:=id hn4
 refine uB (s:={ I6 with heap:=Iq,toks:=Ix }) (names:=[Str.ofString "what",Str.ofString "at"]) X4 XI XI.at_ g4 (.inr ⟨D,Jg,oD,rfl,hDe,gD,hn4,hw4⟩) (.tail _ (.head _)) (by decide) fun IC IV D' Jq k5 g5 Z Z Z hn5 hw5=>?_
 have OW5:Own B (env::fr) (fun a=>a=e\/a=D) as Iq:=by
  have O:=n6 IU g4
  refine ⟨fun a q=>?_,fun a q=>?_,fun a q=>?_,fun a q f=>?_⟩
  ·rcases q with q|rfl
   ·exact O.new a q
   ·rcases z:B.get? a with _|o
    ·rfl
    ·have:=Iw.R.base _ _ z;rw [hDd] at this;cases this
  ·rcases q with q|rfl
   ·exact O.off a q
   ·intro f
    obtain ⟨o,g,_⟩:=Iw.R.kind f
    rw [hDd] at g;cases g
  ·rcases q with q|rfl
   ·exact O.at_ a q
   ·refine ⟨oD,gD,?_⟩
    rintro (⟨_,_,_,d,_⟩|⟨_,_,d⟩)<;>rw [dD] at d<;>cases d
  ·rcases q with q|rfl
   ·exact O.frs a q f
   ·exact Iw.F.notNew hDd f
 have k5':∀b o,¬(b=e\/b=D)->Iq.get? b=some o->IC.get? b=some o:=fun b o ne g=>k5 b o (fun q=>ne (.inl q)) (fun q=>ne (.inr (be q).symm)) g
 have IL:aI I5 w C B (env::fr) (fun a=>aG env a\/(a=e\/a=D)) as { I6 with heap:=Iq,toks:=Ix } as hh { I6 with heap:=IC,toks:=IV }:=aI.but (s:={ I6 with heap:=Iq,toks:=Ix }) (s':={ I6 with heap:=IC,toks:=IV }) (own:=aG env) IU OW5 k5' rfl rfl
 have dead_D:s.heap.get? D=none:=by
  rcases z:s.heap.get? D with _|o
  ·rfl
  ·have:=k3 D o hDe (kp _ _ z);rw [hDd] at this;cases this
 refine wpAny_execs_nil ?_
 refine hQ { I6 with heap:=IC,toks:=IV } ?_ ⟨some D',_,sl,T,g5,f0,f1⟩
 have w1:∀a,aG env a\/a=e->(a=e\/s.heap.get? a=none):=fun a q=>by
  rcases q with q|q
  ·exact .inr (dead a q)
  ·exact .inl q
 refine ((pt.wide fun a q=>q.elim).trans (Ib.tail.wide w1)).trans ((Ip.tail.wide w1).trans (IL.tail.wide fun a q=>?_))
 rcases q with q|q|rfl
 ·exact .inr (dead a q)
 ·exact .inl q
 ·exact .inr dead_D
end
end
section
open W PyProof.Rows SeqAt
section
variable {I5:Program} {w:World} {A:Around} {R:Result->Shared->Prop} {h:Heap} {g:Array GenState} {d:Drawn} {t:Nat} {os:OsState}
variable {nm q:Str} {c N:Addr} {bs bm:List Value} {hdct:Bool} {sn:List Str} {sub:List Value} {ab:Bool} {col:Option Bool} {dd:Option Addr} {k0 k1 k2 k3 k5:Option Value}
theorem AD {rest:List Value} (hB:bm.contains (.type "Exception")=true) (hAt:bm.contains (.type "AttributeError")=false) (hNm:bm.contains (.type "NameError")=false) (hC:h.get? c=some (excClassObj nm q c N bs bm hdct sn sub ab col dd k0 k1 k2 k3 k5 "Exception.__new__"))
  (hq:R (.ok (.ret (.ref (h.objs.size+1)))) ⟨(h.push { cls:=.type "tuple",data:=.seq rest.toArray }).push
   { cls:=.ref c,data:=.fields #[.ref h.objs.size,.none,.none,.none,.bool false,.none] },g,d,t,os⟩) (hrest:rest.length<=sizeLine:=by size_fits):
  codeAny (model I5 w) A (.builtin "Exception.__new__" ⟨.ref c::rest,[]⟩) R ⟨h,g,d,t,os⟩:=by
 have F:=PySem.F.excBase_Exception
 have hends:=F.ends
 have hcB:(Value.ref c::bm).contains (.type "Exception")=true:=by rw [List.contains_cons,hB,Bool.or_true]
 have hcA:(Value.ref c::bm).contains (.type "AttributeError")=false:=by rw [List.contains_cons,hAt];rfl
 have hcN:(Value.ref c::bm).contains (.type "NameError")=false:=by rw [List.contains_cons,hNm];rfl
 refine codeAny_builtinAt F.entry ?_
 unfold Builtin.«BaseException.__new__»
 refine PySem.wpAt_bind ?_
 show PySem.wpAt _ _ _ (stack >>= _) _ _ _
 refine PySem.wpAt_bind (PySem.wpAt_stack fun p below=>PySem.wpAt_of_wpAny ?_)
 wp_walk
 refine PySem.wpAt_of_wpAny ?_
 rw [F.owner]
 repeat (first|with_reducible refine wpAny_madeHere_exc F.canon hC ?_|with_reducible refine wpAny_loadPart_at hC ?_|(with_reducible refine wpAny_isSubtype_exc hC ?_;first|(rewrite +offsetCnstrs [hcB];try with_reducible rfl)|(rewrite +offsetCnstrs [hcA];try with_reducible rfl)|(rewrite +offsetCnstrs [hcN];try with_reducible rfl))|wp_step)
 show R _ _
 rw [Heap.size_push]
 exact hq
end
section
variable {I5:Program} {w:World} {K:Frag} {A:Around} {E:Value->Shared->Prop} {h:Heap} {g:Array GenState} {d:Drawn} {t:Nat} {os:OsState} {c L fI:Addr}
theorem lp {rest:List Value} {Q:Fin->Shared->Prop} (X:K.In h) (XI:qA K c L fI)
  (hq:∀h' e,Heap.MadeExcOf h h' e (.ref c) rest->codeAny (model I5 w) A (.call (.ref fI) ⟨.ref e::rest,[]⟩) (fun r s'=>match r with|.ok (.ret v)=>v=.none/\Q (.done (.ret (.ref e))) s'|.ok _=>False|.error x=>E x s') ⟨h',g,d,t,os⟩) (hrest:rest.length<=sizeLine:=by size_fits):
  wpAny (model I5 w) A (Builtin.«type.__call__» ⟨.ref c::rest,[]⟩) Q E ⟨h,g,d,t,os⟩:=by
 obtain ⟨nm,q,N,bs,sn,sub,ab,col,dd,k0,k1,k2,k3,k5,hKC⟩:=XI.obj
 have hC:=X _ _ hKC
 have F:=PySem.F.excBase_Exception
 repeat (first|with_reducible refine wpAny_loadPart_at hC ?_|with_reducible refine wpAny_madeBy_exc hC ?_|wp_step)
 refine codeAny_call_builtin_code (Code.quiet_builtin _ F.quiet) (wpAny_check_new_subU PySem.F.excBase_Exception (show (cr L).contains (.type "Exception")=true from rfl) .base hC ?_)
 refine AD rfl rfl rfl hC ?_ hrest
 show wpAny _ _ _ _ _ _
 have kp:∀b o,h.get? b=some o->((h.push { cls:=.type "tuple",data:=.seq rest.toArray }).push { cls:=.ref c,data:=.fields #[.ref h.objs.size,.none,.none,.none,.bool false,.none] }).get? b=some o:=fun b o e=>HV _ (HV _ e)
 have J4:=X.keeps kp
 have Jh:=kp _ _ hC
 have hget:((h.push { cls:=.type "tuple",data:=.seq rest.toArray }).push
   { cls:=.ref c,data:=.fields #[.ref h.objs.size,.none,.none,.none,.bool false,.none] }).get? (h.objs.size+1)=some
   { cls:=.ref c,data:=.fields #[.ref h.objs.size,.none,.none,.none,.bool false,.none] }:=by heap_get
 have hcC:(Value.ref c::cr L).contains (.ref c)=true:=by simp
 unfold isInstance
 repeat (first|with_reducible refine wpAny_loadPart_at hget ?_|(with_reducible refine wpAny_isSubtype_exc Jh ?_;rw [hcC])|wp_step)
 show wpAny _ _ (typeLookup (.ref c) _) _ _ _
 refine (looks_findIn (M:=model I5 w) J4 XI.init).at ?_
 have hty:typeIn K (.ref fI)=some (.type "function"):=by have:=XI.fn;unfold isFn at this;simpa using this
 refine wpAny_holding (wpAny_bind ?_)
 refine (bind_fn J4 _ hty).at ?_
 refine wpAny_bind (wpAny_call (codeAny_mono (hq _ (h.objs.size+1) ⟨kp,HW (Nat.le_succ _),h.objs.size,hget,HW (HM _),?_⟩) fun r s' hr=>?_))
 ·exact HV _ (Heap.get?_push_at rfl rfl)
 ·rcases r with x|(v|_|_|_)<;>first|exact hr|exact hr.elim|skip
  obtain ⟨rfl,hQ⟩:=hr
  wp_walk
  exact hQ
theorem xq {rest:List Value} {Q:Value->Shared->Prop} (X:K.In h) (XI:qA K c L fI)
  (hq:∀h' e,Heap.MadeExcOf h h' e (.ref c) rest->codeAny (model I5 w) (A.under (.builtin "type.__call__" ⟨.ref c::rest,[]⟩)) (.call (.ref fI) ⟨.ref e::rest,[]⟩) (fun r s'=>match r with|.ok (.ret v)=>v=.none/\Q (.ref e) s'|.ok _=>False|.error x=>E x s') ⟨h',g,d,t,os⟩) (hrest:rest.length<=sizeLine:=by size_fits):
  wpAny (model I5 w) A (call (.ref c) rest) Q E ⟨h,g,d,t,os⟩:=by
 obtain ⟨nm,q,N,bs,sn,sub,ab,col,dd,k0,k1,k2,k3,k5,hKC⟩:=XI.obj
 have hC:=X _ _ hKC
 have f1:=tc_lookup
 have f2:=tc_bind (.ref c)
 have hT:(⟨h,g,d,t,os⟩:Shared).TypeIs (.ref c) "type" := ⟨_,hC,rfl⟩
 refine wpAny_call (codeAny_of_tree ?_)
 show wpAny _ _ (callAny (.ref c) _) _ _ _
 repeat (any_goals (first|assumption|with_reducible refine wpAny_loadPart_at hC ?_|wp_step))
 refine ⟨rfl,?_⟩
 exact codeAny_call_builtin_at (Code.quiet_builtin _ (by decide +kernel)) entry_typeCall (wpAny_check_type_call_sub hC (lp (hrest:=hrest) X XI fun h' e hm=>hq h' e hm))
end
section
variable {I5:Program} {w:World} {C:CV} {P:PT} {K:Frag} {B:Heap}
def kP (C:CV) (P:PT) (K:Frag) (B:Heap):Prop:=∃fI,ExcInit C B fI/\∀c,isX P c=true->∃L,qA K c L fI
theorem ot (FX:aU C P B K) (XM:kP C P K B):mL I5 w C P B:=by
 obtain ⟨fI,EI,XIs⟩:=XM
 intro A fr as hh s c vs xs Q E hA hx h0 rvs hsh hQ
 obtain ⟨L,XI⟩:=XIs c hx
 obtain ⟨nm,q,N,bs,sn,sub,ab,col,dd,k0,k1,k2,k3,k5,hKC⟩:=XI.obj
 obtain ⟨hp,g,d,tk,os⟩:=s
 have X:K.In hp:=FX.frag.keeps h0.R.base
 have hC:=X _ _ hKC
 refine ⟨⟨.machine,.inr (.inl rfl),?_⟩,?_⟩
 ·unfold keeperOf
  refine (Looks.ld hC).andThen ?_
  have L1:Looks (model I5 w) hp (typeOf (.ref c)) (.type "type"):=(Looks.ld hC).andThen .now
  have L2:Looks (model I5 w) hp (specialOf (.ref c) "__call__") (some (.builtin "type.__call__")):=L1.andThen (Looks.of_pure tc_lookup)
  exact L2.andThen .now
 ·have hlen:=rvs.length
  refine xq X XI (fun h' e hm=>?_) (aR (by rcases hsh with ⟨a,rfl⟩|⟨a,b,rfl⟩<;>simp at hlen<;>omega))
  obtain ⟨t,ge,_,_⟩:=hm.there
  have Il:aI I5 w C B fr ay as ⟨hp,g,d,tk,os⟩ as hh ⟨h',g,d,tk,os⟩:=aI.grow (s':=⟨h',g,d,tk,os⟩) h0 hm.keeps rfl rfl
  have hB:B.get? e=none:=by
   rcases z:B.get? e with _|o
   ·rfl
   ·have:=h0.R.base _ _ z;have n:=hm.new;rw [this] at n;injection n
  have hoff:¬foot as e:=fun f=>by
   obtain ⟨o,g',_⟩:=h0.R.kind f
   have n:=hm.new
   rw [g'] at n;injection n
  have rvs':aj as h' vs xs:=(am.mono' (as:=as) (as':=as) ⟨[],(th as).symm⟩ fun a o e Z=>hm.keeps a o e).2 rvs
  have go:∀v0,(vs=[.str v0]\/∃b,vs=[.str v0,b])->codeAny (model I5 w) (A.under (.builtin "type.__call__" ⟨.ref c::xs,[]⟩)) (.call (.ref fI) ⟨.ref e::xs,[]⟩) (fun r s'=>match r with|.ok (.ret v)=>v=.none/\Q (.ref e) s'|.ok _=>False|.error x=>E x s') ⟨h',g,d,tk,os⟩:=fun v0 hv=>by
   refine mS (v0:=v0) FX EI XI hA.typeCall Il.here rvs' hv hB hoff ⟨_,_,t,ge,rfl,rfl⟩ fun s' I7 hx'=>⟨rfl,?_⟩
   obtain ⟨od,us,sl,t0,g2,f0,f1⟩:=hx'
   refine hQ as s' e (Il.under (Ch:=fun a=>a=e\/h'.get? a=none) ?_ fun a q=>?_) ⟨_,us,_,g2,rfl,rfl,f0,f1⟩ hB
   ·have e1:(fun a=>ay a\/(a=e\/h'.get? a=none))=(fun a=>a=e\/h'.get? a=none):=by funext a;simp [ay]
    rw [e1];exact I7
   ·rcases q with rfl|q
    ·exact hm.new
    ·rcases z:hp.get? a with _|o
     ·rfl
     ·rw [hm.keeps a o z] at q;injection q
  rcases hsh with ⟨a,rfl⟩|⟨a,b,rfl⟩
  ·exact go a (.inl rfl)
  ·exact go a (.inr ⟨b,rfl⟩)
theorem Fo (FX:aU C P B K) (XF:bx P B) (XM:kP C P K B) (lim n:Nat):cj I5 w C B P (a9 P lim n) n:=B3 FX XF (ot FX XM) lim n
end
end
section
noncomputable def unp:Nat->Nat->List Nat
 |0,_=>[]
 |k+1,n=>(n % 64+32)::unp k (n / 64)
noncomputable def RES:List Nat:=([0x840924840cf39638e1034c258e3840,0x840b2c840ca5d268409eea63ba1da4,0x8e9d258a1a30b21023a74962868c2c,0xc35363a74962868c2c840ca5defb0d,0xc2c8408e9ca5b75ba1a30b21032970,0xcec840925d29925363a7296dd6e868,0x39ba1024ba1025d21bb2974b2102f,0xba58f3840ce1972840865ca1025ca1,0xbe8d35840d2102e9e9cf38409eea64,0xba1b22039ca1ba9880972be6962032,0xca1a2302cb218c0e6202b8efb2202b,0xbec8c0cf29748e1ca1a230329748e1,0xd70b6f8c04cdc2dbe3030b6f8c0973,0xbafa74874d70b6f8c0b21bafa74874,0xd67a66baf8c0974d70b6f8c04cdb21,0xd2ebe3033ba9874baf8c0bafa74872,0xd32976baf8c0975ba9d2ebe3034ba5,0xce5cb2be3032caf8c0e70be3027ba9,0x900874864034bb5be3027ba992ebf0,0xcb7365d21900925b29c2dbe3365d21,0xd29b69b2590097496c96402e974d29,0xa64ba5c25900ca5d29b69b25900925,0x86cc33a64027ba992e963ce59009ee,0xbe402ebe9ce9da9900964a76a64039,0xa6d86ee64033974863a6cc35900bb7,0x94092484d92e94092e940973b25023,0x25d35c2dbe3364ba502cb218cd92e,0x929da990d92e94097496c964364ba5,0xa4d92e940974875b21da5364ba5025,0xc0d92e940e6cc29d2cd6d364ba5026,0x364ba5024865c8d92e940b72be6ca5,0x940974a72de5c8d92e940bb2d74972,0x34ca1d33364ba50288f2865ccd92e,0xcb48b5ccd92e9409eea72d33364ba5,0x92e9409eea72d33bb5364ba50348e1,0x940d2e96dbafca9dae940974a72dcd,0x25d21d6c876940cafcb2940b21d71,0xba5d38940d29e2502ebe9d30963e25,0x24980973b21980b21bb2974e25024,0xa6602cbf2d2ebe3365b2998096ca66,0x2dbf2980caf980d33ca9980ca5b2c,0x9729c0be702c862bec9c09eea76a67,0xa27a68025d6c8763689e9a00ca5d21,0xd2ebe336f36902f369033975b21d8d,0xa40bafa74863a66a74ba592902cbf2,0xa40925e2592ea40e2592ea40ba9026,0xba9025ea9b21a74a6ea40b21a74a6e,0xceea40d35c34d6f374d70ba9034d70,0xba902ebe9d21b2c874ceea40d23970,0xa80d33d6a033a40929b21daea40bf4,0xb00b258a1b00e65ac0925a66a74cf5,0xba9b00cf396c0349a5b009eea64865,0xae3bec0259e1aeea6c03396ea6c025,0x975b21d8ddefb00975b21d8ddefb00,0xd6d025dafb40964bed0259f296d033,0xa7486796e025da9d21b80e6cc29d2c,0xca5b75b80d2fb80bee034e25b80976,0x8af024974a6494d8e9ca5b75b808e9,0xcf2d638ef032974d70b6f8cdd2396a,0xbc0baf024974d29b6f0269af026bc0,0x964caf032bc0b21bafa74c2f02e970,0xca5a34bc0bafa7487aa6e867caf032,0x8e1c00defb26ca5daf034d70d35bc0,0x2dcaf9b297002c86da6396436496b,0x32974ba9bf0025cb5d23a70023a70,0xc00972d64963bf2c00976a74a73bf0,0xca7bf2c00b61ca7bf2c00925963bf2,0xc80ce5d2fd71025d2fd71024a4db61,0x972024caf8e5c8092197202dbe4ba1,0x96697203396ea66964972033932be3,0x865b25c80976a7486c9720258ee972,0xce5b61ba5c80ca592ea61b65c80973,0xc809eea6386cc25c8096386cc25c80,0x34a27a72025d29cb797202ecb5d25,0x24cc096d87302ed72024964bb5bf2,0xcb58e5cc0bafa748e5cc0a23ca1973,0x258ee974ba5cc0d2396c973039d29,0x2c869d2e975c65cc0974872870973,0xcc0d32bf3025ea9cc0ba7a73034973,0xb6f8cd963cb5bf30259f296d374caf,0xcc0ce58e1c330258e1c33032974d70,0xca192e874cc0ce5b61b8db21a63970,0x30bf4cc0cf5d21d33034ca1d33024,0x8eee730348e1cb48b5cc09eea72d33,0xa79b2c87402497aa6ebf2a23bb9cc0,0xa3402e968d00ba1a34034ce5d009ee,0x2fd00ce5b69d00d72a340289f5bf2,0xa72d33bb5025d72d009eea6ca61cb4,0x873d40bafc35030d40b29d2ed409ee,0x975b21d80975b21d809eea73d40967,0x28d29dc0ba5a37027ba9e72876033,0xd29cb70259e1cafd33367ba9af2bf7,0x33bf297a03396fca5e80bf297a025]:List Nat).flatMap (unp 20)++[]
noncomputable def f37:aA:=⟨[9,10,11],[.tup [.int (0),.int (0)]],[
 .expr (.meth (.stat (.bt .exception)) 12 [.loc 9,.loc 10]),
 .asgA (.loc 9) 10 (.loc 10),
 .asgA (.loc 9) 11 (.loc 11)]⟩
noncomputable def H9:aA:=⟨[9,13,14,15,16,17],[.none,.tup [],.tup []],[
 .asgA (.loc 9) 13 (.loc 13),
 .asgA (.loc 9) 14 (.loc 14),
 .asgA (.loc 9) 15 (.loc 15),
 .asgA (.loc 9) 16 (.call (.stat (.bt .tuple)) [.loc 16]),
 .asgA (.loc 9) 17 (.call (.stat (.bt .tuple)) [.loc 17])]⟩
noncomputable def H8:aA:=⟨[9,18,19],[],[
 .asgA (.loc 9) 18 (.loc 18),
 .asgA (.loc 9) 19 (.loc 19),
 .asgA (.loc 9) 20 (.none),
 .asgA (.loc 9) 21 (.str []),
 .asgA (.loc 9) 22 (.str []),
 .asgA (.loc 9) 23 (.bool false),
 .asgA (.loc 9) 24 (.none),
 .asgA (.loc 9) 25 (.str []),
 .asgA (.loc 9) 26 (.none),
 .asgA (.loc 9) 27 (.bool false),
 .asgA (.loc 9) 28 (.bool false),
 .asgA (.loc 9) 29 (.list []),
 .asgA (.loc 9) 30 (.list []),
 .asgA (.loc 9) 31 (.none),
 .asgA (.loc 9) 32 (.none),
 .asgA (.loc 9) 33 (.str []),
 .asgA (.loc 9) 34 (.int (0)),
 .asgA (.loc 9) 35 (.int (0)),
 .asgA (.loc 9) 36 (.none)]⟩
noncomputable def H7:aA:=⟨[9,37],[],[
 .asgA (.loc 37) 31 (.loc 9),
 .expr (.meth (.attr (.loc 9) 30) 0 [.loc 37])]⟩
noncomputable def H6:aA:=⟨[9],[],[
 .asgA (.loc 9) 44 (.list []),
 .asgA (.loc 9) 45 (.list []),
 .asgA (.loc 9) 46 (.dict [] []),
 .asgA (.loc 9) 47 (.list []),
 .asgA (.loc 9) 35 (.int (0)),
 .asgA (.loc 9) 17 (.dict [] [])]⟩
noncomputable def AC:List PS:=[.expr (.meth (.loc 50) 1 [.sub (.attr (.loc 49) 46) (.loc 19)])]
noncomputable def H5:aA:=⟨[49],[],[
 .asg 50 (.list []),
 .for_ [19] true (.attr (.loc 49) 46) AC,
 .ret (.bin .Add (.bin .Add (.loc 50) (.attr (.loc 49) 44)) (.attr (.loc 49) 45))]⟩
noncomputable def AA:PE:=(.cmp (.loc 51) .NotEq (.list []))
noncomputable def AB:List PS:=[.asg 42 (.meth (.loc 51) 2 []),.expr (.meth (.loc 50) 0 [.loc 42]),.expr (.meth (.loc 51) 1 [.rev (.attr (.loc 42) 30)])]
noncomputable def H4:aA:=⟨[48],[],[
 .asg 50 (.list []),
 .asg 51 (.list [.loc 48]),
 .whl AA AB,
 .ret (.loc 50)]⟩
noncomputable def Az:List PS:=[.expr (.meth (.loc 50) 1 [.call (.stat (.fn 216)) [.loc 52]])]
noncomputable def H3:aA:=⟨[49],[],[
 .asg 50 (.list []),
 .for_ [52] true (.call (.stat (.fn 209)) [.loc 49]) Az,
 .ret (.loc 50)]⟩
noncomputable def Ax:PE:=(.cmp (.loc 53) .IsNot (.none))
noncomputable def Ay:List PS:=[.expr (.meth (.loc 50) 0 [.loc 53]),.asg 53 (.attr (.loc 53) 31)]
noncomputable def H0:aA:=⟨[48],[],[
 .asg 50 (.list []),
 .asg 53 (.attr (.loc 48) 31),
 .whl Ax Ay,
 .ret (.loc 50)]⟩
noncomputable def GZ:aA:=⟨[48],[],[
 .asg 54 (.call (.stat (.fn 230)) [.loc 48]),
 .ret (.ite (.cmp (.loc 54) .NotEq (.list [])) (.sub (.loc 54) (.neg (.int (1)))) (.loc 48))]⟩
noncomputable def GY:aA:=⟨[48],[],[
 .ret (.comp (.attr (.loc 42) 19) 42 (.call (.stat (.fn 230)) [.loc 48]) (.cmp (.attr (.loc 42) 19) .NotEq (.stat (.str [70,73,76,76,69,82]))))]⟩
noncomputable def GX:aA:=⟨[48],[],[
 .asg 51 (.bin .Add (.rev (.call (.stat (.fn 230)) [.loc 48])) (.list [.loc 48])),
 .ret (.comp (.loc 42) 42 (.loc 51) (.cmp (.attr (.loc 42) 24) .IsNot (.none)))]⟩
noncomputable def d8:PE:=(.or (.cmp (.loc 57) .Gt (.int (0))) (.and (.cmp (.loc 58) .Eq (.int (0))) (.meth (.loc 56) 59 [.str [40]])))
noncomputable def dW:List PS:=[.ite (.cmp (.meth (.loc 56) 60 [.loc 58]) .Is (.none)) [.ret (.bool false)] [],.ite (.meth (.loc 56) 59 [.str [40],.loc 58]) [.asg 57 (.bin .Add (.loc 57) (.int (1)))] [.ite (.meth (.loc 56) 59 [.str [41],.loc 58]) [.asg 57 (.bin .Sub (.loc 57) (.int (1)))] [.ite (.and (.cmp (.loc 57) .Eq (.int (1))) (.meth (.loc 56) 59 [.str [58],.loc 58])) [.ret (.bool true)] []]],.asg 58 (.bin .Add (.loc 58) (.int (1)))]
noncomputable def E7:aA:=⟨[56],[],[
 .asgD [57,58] [.int (0),.int (0)],
 .whl d8 dW,
 .ret (.bool false)]⟩
noncomputable def iX:PE:=(.not (.meth (.loc 56) 63 [.str [41]]))
noncomputable def kK:List PS:=[.ite (.cmp (.call (.stat (.bf .len)) [.loc 50]) .GtE (.stat (.int (7)))) [.raiseM (.loc 56) 64 [.str [109,111,114,101,32,116,104,97,110,32,55,32,115,117,98,115,99,114,105,112,116,115]]] [],.expr (.meth (.loc 50) 0 [.call (.loc 61) [.loc 56]])]
noncomputable def E6:aA:=⟨[56,61],[],[
 .expr (.meth (.loc 56) 62 [.str [40]]),
 .asg 50 (.list [.call (.loc 61) [.loc 56]]),
 .whl iX kK,
 .ret (.call (.stat (.bt .tuple)) [.loc 50])]⟩
noncomputable def Bc:aA:=⟨[56,61],[],[
 .expr (.meth (.loc 56) 62 [.str [40]]),
 .asg 65 (.call (.loc 61) [.loc 56]),
 .expr (.meth (.loc 56) 62 [.str [58]]),
 .asg 66 (.ite (.meth (.loc 56) 59 [.str [41]]) (.none) (.call (.loc 61) [.loc 56])),
 .expr (.meth (.loc 56) 62 [.str [41]]),
 .ret (.tup [.loc 65,.loc 66])]⟩
noncomputable def iW:PE:=(.cmp (.meth (.loc 56) 68 [.str [79,70,32,73,78]]) .NotEq (.str []))
noncomputable def kJ:List PS:=[.expr (.meth (.loc 67) 0 [.meth (.loc 56) 19 []])]
noncomputable def vW:aA:=⟨[56,61],[],[
 .asg 19 (.meth (.loc 56) 19 []),
 .asg 67 (.list []),
 .whl iW kJ,
 .asg 69 (.tup []),
 .ite (.and (.meth (.loc 56) 59 [.str [40]]) (.not (.call (.stat (.fn 255)) [.loc 56]))) [.asg 69 (.call (.stat (.fn 262)) [.loc 56,.loc 61])] [],
 .asg 70 (.ite (.call (.stat (.fn 255)) [.loc 56]) (.call (.stat (.fn 269)) [.loc 56,.loc 61]) (.none)),
 .ret (.tup [.str [114,101,102],.loc 19,.call (.stat (.bt .tuple)) [.loc 67],.loc 69,.loc 70])]⟩
noncomputable def EU:aA:=⟨[56],[],[
 .ite (.or (.not (.meth (.loc 56) 71 [.str [119,111,114,100]])) (.cmp (.attr (.meth (.loc 56) 60 []) 74) .NotIn (.stat (.fn 248)))) [.ret (.none)] [],
 .ret (.tup [.str [102,105,103,117,114,101],.sub (.stat (.fn 248)) (.attr (.meth (.loc 56) 75 []) 74)])]⟩
noncomputable def E5:aA:=⟨[56,61],[],[
 .ite (.meth (.loc 56) 76 []) [.ret (.tup [.str [110,117,109,98,101,114],.meth (.loc 56) 77 []])] [],
 .ite (.meth (.loc 56) 71 [.str [108,105,116,101,114,97,108]]) [.ret (.tup [.str [116,101,120,116],.meth (.loc 56) 72 []])] [],
 .ite (.meth (.loc 56) 78 [.str [65,76,76]]) [.retX (.stat (.fn 283)) [.loc 56]] [],
 .asg 73 (.call (.stat (.fn 290)) [.loc 56]),
 .ret (.ite (.cmp (.loc 73) .Is (.none)) (.call (.stat (.fn 276)) [.loc 56,.loc 61]) (.loc 73))]⟩
noncomputable def Aw:List PS:=[.ite (.cmp (.comp (.loc 52) 52 (.sub (.attr (.loc 49) 46) (.loc 19)) (.cmp (.loc 52) .Is (.loc 79))) .NotEq (.list [])) [.ret (.loc 19)] []]
noncomputable def GW:aA:=⟨[49,48],[],[
 .asg 79 (.call (.stat (.fn 237)) [.loc 48]),
 .for_ [19] true (.attr (.loc 49) 46) Aw,
 .ret (.str [])]⟩
noncomputable def Av:List PS:=[.ite (.and (.cmp (.loc 11) .Lt (.call (.stat (.bf .len)) [.loc 67])) (.cmp (.loc 19) .Eq (.sub (.loc 67) (.loc 11)))) [.asg 11 (.bin .Add (.loc 11) (.int (1)))] []]
noncomputable def GV:aA:=⟨[54,67],[],[
 .asg 11 (.int (0)),
 .for_ [19] true (.loc 54) Av,
 .ret (.cmp (.loc 11) .Eq (.call (.stat (.bf .len)) [.loc 67]))]⟩
noncomputable def GU:aA:=⟨[50,19],[],[
 .ite (.cmp (.call (.stat (.bf .len)) [.loc 50]) .Eq (.int (0))) [.raiseC (.stat (.cls 84)) [.bin .Add (.str [97,110,32,117,110,107,110,111,119,110,32,110,97,109,101,58,32]) (.loc 19)]] [],
 .ite (.cmp (.call (.stat (.bf .len)) [.loc 50]) .Gt (.int (1))) [.raiseC (.stat (.cls 84)) [.bin .Add (.str [97,110,32,97,109,98,105,103,117,111,117,115,32,110,97,109,101,58,32]) (.loc 19)]] [],
 .ret (.sub (.loc 50) (.int (0)))]⟩
noncomputable def GT:aA:=⟨[49,19,67],[],[
 .asg 80 (.comp (.loc 48) 48 (.call (.stat (.fn 223)) [.loc 49]) (.cmp (.attr (.loc 48) 19) .Eq (.loc 19))),
 .retX (.stat (.fn 316)) [.comp (.loc 48) 48 (.loc 80) (.call (.stat (.fn 309)) [.bin .Add (.call (.stat (.fn 242)) [.loc 48]) (.list [.call (.stat (.fn 302)) [.loc 49,.loc 48]]),.loc 67]),.loc 19]]⟩
noncomputable def iV:List PS:=[.ite (.not (.chain (.int (1)) .LtE (.loc 83) .LtE (.attr (.attr (.loc 82) 24) 14))) [.raiseC (.stat (.cls 96)) [.bin .Add (.str [97,32,115,117,98,115,99,114,105,112,116,32,98,101,121,111,110,100,32,105,116,115,32,116,97,98,108,101,58,32]) (.attr (.loc 48) 19)]] [],.asg 34 (.bin .Add (.loc 34) (.bin .Mult (.bin .Sub (.loc 83) (.int (1))) (.attr (.loc 82) 35)))]
noncomputable def Bp:aA:=⟨[48,69,70],[],[
 .asg 81 (.call (.stat (.fn 247)) [.loc 48]),
 .ite (.cmp (.call (.stat (.bf .len)) [.loc 69]) .NotEq (.call (.stat (.bf .len)) [.loc 81])) [.raiseC (.stat (.cls 96)) [.bin .Add (.str [97,110,111,116,104,101,114,32,110,117,109,98,101,114,32,111,102,32,115,117,98,115,99,114,105,112,116,115,32,116,104,97,110,32,116,97,98,108,101,115,58,32]) (.attr (.loc 48) 19)]] [],
 .asg 34 (.attr (.loc 48) 34),
 .forZip [82,83] (.loc 81) (.loc 69) iV,
 .ite (.cmp (.loc 70) .Is (.none)) [.ret (.tup [.loc 34,.attr (.loc 48) 35])] [],
 .asgT [65,66] (.loc 70),
 .ite (.cmp (.loc 66) .Is (.none)) [.asg 66 (.bin .Add (.bin .Sub (.attr (.loc 48) 35) (.loc 65)) (.int (1)))] [],
 .ite (.or (.cmp (.loc 65) .Lt (.int (1))) (.or (.cmp (.loc 66) .Lt (.int (1))) (.cmp (.bin .Sub (.bin .Add (.loc 65) (.loc 66)) (.int (1))) .Gt (.attr (.loc 48) 35)))) [.raiseC (.stat (.cls 96)) [.bin .Add (.str [97,32,112,97,114,116,32,98,101,121,111,110,100,32,105,116,115,32,105,116,101,109,58,32]) (.attr (.loc 48) 19)]] [],
 .ret (.tup [.bin .Sub (.bin .Add (.loc 34) (.loc 65)) (.int (1)),.loc 66])]⟩
noncomputable def ET:aA:=⟨[9,84,85],[],[
 .asgA (.loc 9) 84 (.loc 84),
 .asgA (.loc 9) 86 (.loc 85)]⟩
noncomputable def uA:PE:=(.and (.cmp (.loc 89) .Gt (.int (0))) (.cmp (.bin .Mod (.loc 88) (.int (10))) .Eq (.int (0))))
noncomputable def Au:List PS:=[.asg 88 (.bin .FloorDiv (.loc 88) (.int (10))),.asg 89 (.bin .Sub (.loc 89) (.int (1)))]
noncomputable def ES:aA:=⟨[88,89],[.int (0)],[
 .ite (.cmp (.loc 89) .Lt (.int (0))) [.ret (.tup [.bin .Mult (.loc 88) (.bin .Pow (.int (10)) (.neg (.loc 89))),.int (0)])] [],
 .whl uA Au,
 .ret (.tup [.loc 88,.loc 89])]⟩
noncomputable def uz:List PS:=[.asg 94 (.bin .Add (.bin .Mult (.loc 94) (.int (10))) (.meth (.stat (.str [48,49,50,51,52,53,54,55,56,57])) 7 [.loc 73]))]
noncomputable def ER:aA:=⟨[93],[],[
 .asg 94 (.int (0)),
 .for_ [73] true (.loc 93) uz,
 .ret (.loc 94)]⟩
noncomputable def uy:List PS:=[.ite (.and (.cmp (.sub (.loc 84) (.loc 11)) .NotIn (.stat (.str [48,49,50,51,52,53,54,55,56,57]))) (.cmp (.loc 11) .NotEq (.bin .Add (.loc 65) (.call (.stat (.bf .len)) [.loc 58])))) [.raiseC (.stat (.cls 60)) [.str [110,111,32,102,105,103,117,114,101],.tup [.int (0),.loc 11]]] []]
noncomputable def EQ:aA:=⟨[84],[],[
 .asg 65 (.ite (.cmp (.slice (.loc 84) (.none) (.int (1))) .In (.tup [.str [43],.str [45]])) (.int (1)) (.int (0))),
 .asgD [58,95] [.slice (.loc 84) (.loc 65) (.none),.str []],
 .ite (.cmp (.str [46]) .In (.loc 58)) [.asg 96 (.meth (.loc 58) 7 [.str [46]]),.asgD [58,95] [.slice (.loc 58) (.none) (.loc 96),.slice (.loc 58) (.bin .Add (.loc 96) (.int (1))) (.none)],.ite (.cmp (.loc 95) .Eq (.str [])) [.raiseC (.stat (.cls 60)) [.str [110,111,32,102,105,103,117,114,101,32,98,101,104,105,110,100,32,116,104,101,32,112,111,105,110,116],.tup [.int (0),.call (.stat (.bf .len)) [.loc 84]]]] []] [],
 .ite (.cmp (.bin .Add (.loc 58) (.loc 95)) .Eq (.str [])) [.raiseC (.stat (.cls 60)) [.str [110,111,32,102,105,103,117,114,101],.tup [.int (0),.loc 65]]] [],
 .for_ [11] true (.call (.stat (.bt .range)) [.loc 65,.call (.stat (.bf .len)) [.loc 84]]) uy,
 .asg 88 (.call (.stat (.fn 406)) [.bin .Add (.loc 58) (.loc 95)]),
 .retX (.stat (.fn 371)) [.ite (.cmp (.slice (.loc 84) (.none) (.int (1))) .Eq (.str [45])) (.neg (.loc 88)) (.loc 88),.call (.stat (.bf .len)) [.loc 95]]]⟩
noncomputable def EP:aA:=⟨[97],[],[
 .ret (.cmp (.bin .Add (.bin .Add (.str [32]) (.loc 97)) (.str [32])) .In (.stat (.str RES)))]⟩
noncomputable def EO:aA:=⟨[9,100,11],[.int (0)],[
 .asgA (.loc 9) 100 (.loc 100),
 .asgA (.loc 9) 11 (.loc 11),
 .asgA (.loc 9) 41 (.dict [] [])]⟩
noncomputable def E4:aA:=⟨[9,58],[.int (0)],[
 .ite (.cmp (.bin .Add (.attr (.loc 9) 11) (.loc 58)) .Lt (.call (.stat (.bf .len)) [.attr (.loc 9) 100])) [.ret (.sub (.attr (.loc 9) 100) (.bin .Add (.attr (.loc 9) 11) (.loc 58)))] [],
 .ret (.none)]⟩
noncomputable def EN:aA:=⟨[9],[],[
 .ret (.cmp (.attr (.loc 9) 11) .GtE (.call (.stat (.bf .len)) [.attr (.loc 9) 100]))]⟩
noncomputable def EM:aA:=⟨[9,10],[],[
 .ite (.not (.attr (.loc 9) 100)) [.retX (.stat (.cls 72)) [.loc 10,.tup [.int (0),.int (0)]]] [],
 .retX (.stat (.cls 72)) [.loc 10,.attr (.sub (.attr (.loc 9) 100) (.call (.stat (.bf .min)) [.attr (.loc 9) 11,.bin .Sub (.call (.stat (.bf .len)) [.attr (.loc 9) 100]) (.int (1))])) 11]]⟩
noncomputable def EL:aA:=⟨[9],[],[
 .asg 101 (.meth (.loc 9) 60 []),
 .ite (.cmp (.loc 101) .Is (.none)) [.raiseM (.loc 9) 64 [.str [116,104,101,32,116,101,120,116,32,101,110,100,115,32,116,111,111,32,101,97,114,108,121]]] [],
 .asgA (.loc 9) 11 (.bin .Add (.attr (.loc 9) 11) (.int (1))),
 .ret (.loc 101)]⟩
noncomputable def EK:aA:=⟨[9,102,58],[.int (0)],[
 .asg 101 (.meth (.loc 9) 60 [.loc 58]),
 .ret (.and (.cmp (.loc 101) .IsNot (.none)) (.cmp (.attr (.loc 101) 102) .Eq (.loc 102)))]⟩
noncomputable def ux:List PS:=[.ite (.or (.not (.meth (.loc 9) 71 [.str [119,111,114,100],.loc 58])) (.cmp (.attr (.meth (.loc 9) 60 [.loc 58]) 74) .NotEq (.loc 97))) [.ret (.bool false)] [],.asg 58 (.bin .Add (.loc 58) (.int (1)))]
noncomputable def EJ:aA:=⟨[9,103],[],[
 .asg 58 (.int (0)),
 .for_ [97] true (.meth (.loc 103) 4 [.str [32]]) ux,
 .ret (.bool true)]⟩
noncomputable def E3:aA:=⟨[9,103],[],[
 .ite (.not (.meth (.loc 9) 104 [.loc 103])) [.ret (.bool false)] [],
 .asgA (.loc 9) 11 (.bin .Add (.attr (.loc 9) 11) (.call (.stat (.bf .len)) [.meth (.loc 103) 4 [.str [32]]])),
 .ret (.bool true)]⟩
noncomputable def kI:List PS:=[.ite (.meth (.loc 9) 78 [.loc 97]) [.ret (.loc 97)] []]
noncomputable def Bo:aA:=⟨[9,103],[],[
 .for_ [97] true (.meth (.loc 103) 4 [.str [32]]) kI,
 .ret (.str [])]⟩
noncomputable def EH:aA:=⟨[9,58],[.int (0)],[
 .ret (.and (.meth (.loc 9) 71 [.str [119,111,114,100],.loc 58]) (.not (.call (.stat (.fn 420)) [.attr (.meth (.loc 9) 60 [.loc 58]) 74])))]⟩
noncomputable def E2:aA:=⟨[9],[],[
 .ite (.not (.meth (.loc 9) 105 [])) [.raiseM (.loc 9) 64 [.str [97,32,110,97,109,101,32,105,115,32,97,115,107,101,100,32,104,101,114,101]]] [],
 .ret (.attr (.meth (.loc 9) 75 []) 74)]⟩
noncomputable def EG:aA:=⟨[9,22,58],[.int (0)],[
 .ret (.and (.meth (.loc 9) 71 [.str [115,105,103,110],.loc 58]) (.cmp (.attr (.meth (.loc 9) 60 [.loc 58]) 74) .Eq (.loc 22)))]⟩
noncomputable def E1:aA:=⟨[9,22],[],[
 .ite (.not (.meth (.loc 9) 59 [.loc 22])) [.ret (.bool false)] [],
 .asgA (.loc 9) 11 (.bin .Add (.attr (.loc 9) 11) (.int (1))),
 .ret (.bool true)]⟩
noncomputable def E0:aA:=⟨[9,22],[],[
 .ite (.not (.meth (.loc 9) 63 [.loc 22])) [.raiseM (.loc 9) 64 [.bin .Add (.loc 22) (.str [32,105,115,32,97,115,107,101,100,32,104,101,114,101])]] []]⟩
noncomputable def EF:aA:=⟨[9],[],[
 .ite (.or (.meth (.loc 9) 59 [.str [43]]) (.meth (.loc 9) 59 [.str [45]])) [.ret (.meth (.loc 9) 71 [.str [110,117,109,98,101,114],.int (1)])] [],
 .ret (.meth (.loc 9) 71 [.str [110,117,109,98,101,114]])]⟩
noncomputable def EE:aA:=⟨[9],[],[
 .ite (.not (.meth (.loc 9) 76 [])) [.raiseM (.loc 9) 64 [.str [97,32,110,117,109,98,101,114,32,105,115,32,97,115,107,101,100,32,104,101,114,101]]] [],
 .asg 106 (.meth (.loc 9) 63 [.str [45]]),
 .ite (.not (.loc 106)) [.expr (.meth (.loc 9) 63 [.str [43]])] [],
 .asg 50 (.call (.stat (.fn 413)) [.attr (.meth (.loc 9) 75 []) 74]),
 .ret (.ite (.loc 106) (.call (.stat (.fn 378)) [.loc 50]) (.loc 50))]⟩
noncomputable def ED:aA:=⟨[9,102,74,11,107],[.tup [.int (0),.int (0)],.bool false],[
 .asgA (.loc 9) 102 (.loc 102),
 .asgA (.loc 9) 74 (.loc 74),
 .asgA (.loc 9) 11 (.loc 11),
 .asgA (.loc 9) 107 (.loc 107)]⟩
noncomputable def EC:aA:=⟨[22],[],[
 .ret (.ite (.chain (.str [97]) .LtE (.loc 22) .LtE (.str [122])) (.call (.stat (.bf .chr)) [.bin .Sub (.call (.stat (.bf .ord)) [.loc 22]) (.int (32))]) (.loc 22))]⟩
noncomputable def EB:aA:=⟨[84],[],[
 .ret (.meth (.str []) 5 [.comp (.call (.stat (.fn 635)) [.loc 22]) 22 (.loc 84) (.bool true)])]⟩
noncomputable def EA:aA:=⟨[22],[],[
 .ret (.cmp (.call (.stat (.fn 635)) [.loc 22]) .In (.stat (.str [65,66,67,68,69,70,71,72,73,74,75,76,77,78,79,80,81,82,83,84,85,86,87,88,89,90,48,49,50,51,52,53,54,55,56,57,45])))]⟩
noncomputable def iU:PE:=(.and (.cmp (.loc 11) .Lt (.call (.stat (.bf .len)) [.loc 84])) (.cmp (.call (.stat (.fn 635)) [.sub (.loc 84) (.loc 11)]) .In (.loc 108)))
noncomputable def nN:List PS:=[.asg 11 (.bin .Add (.loc 11) (.int (1)))]
noncomputable def Ez:aA:=⟨[84,11,108],[],[
 .whl iU nN,
 .ret (.loc 11)]⟩
noncomputable def Ey:aA:=⟨[84,11],[],[
 .asg 109 (.call (.stat (.fn 668)) [.loc 84,.loc 11,.stat (.str [48,49,50,51,52,53,54,55,56,57])]),
 .ite (.and (.cmp (.slice (.loc 84) (.loc 109) (.bin .Add (.loc 109) (.int (1)))) .Eq (.str [46])) (.and (.cmp (.slice (.loc 84) (.bin .Add (.loc 109) (.int (1))) (.bin .Add (.loc 109) (.int (2)))) .NotEq (.str [])) (.cmp (.sub (.loc 84) (.bin .Add (.loc 109) (.int (1)))) .In (.stat (.str [48,49,50,51,52,53,54,55,56,57]))))) [.asg 109 (.call (.stat (.fn 668)) [.loc 84,.bin .Add (.loc 109) (.int (1)),.stat (.str [48,49,50,51,52,53,54,55,56,57])])] [],
 .ret (.loc 109)]⟩
noncomputable def Ew:aA:=⟨[51,11,109],[],[
 .asg 74 (.call (.stat (.fn 640)) [.slice (.attr (.loc 51) 84) (.loc 11) (.loc 109)]),
 .ite (.cmp (.comp (.loc 22) 22 (.loc 74) (.cmp (.loc 22) .In (.stat (.str [65,66,67,68,69,70,71,72,73,74,75,76,77,78,79,80,81,82,83,84,85,86,87,88,89,90])))) .Eq (.list [])) [.raiseC (.stat (.fn 661)) [.loc 51,.loc 11,.str [97,32,119,111,114,100,32,119,105,116,104,111,117,116,32,97,32,108,101,116,116,101,114]]] [],
 .ite (.cmp (.sub (.loc 74) (.neg (.int (1)))) .Eq (.str [45])) [.raiseC (.stat (.fn 661)) [.loc 51,.bin .Sub (.loc 109) (.int (1)),.str [97,32,119,111,114,100,32,101,110,100,115,32,119,105,116,104,32,97,32,104,121,112,104,101,110]]] [],
 .ite (.cmp (.call (.stat (.bf .len)) [.loc 74]) .Gt (.stat (.int (30)))) [.raiseC (.stat (.fn 661)) [.loc 51,.bin .Add (.loc 11) (.stat (.int (30))),.str [97,32,119,111,114,100,32,111,102,32,109,111,114,101,32,116,104,97,110,32,51,48,32,115,105,103,110,115]]] [],
 .ret (.loc 74)]⟩
noncomputable def Ev:aA:=⟨[51,11,109],[],[
 .asg 74 (.slice (.attr (.loc 51) 84) (.loc 11) (.loc 109)),
 .ite (.cmp (.call (.stat (.bf .len)) [.meth (.loc 74) 6 [.str [46],.str []]]) .Gt (.stat (.int (18)))) [.raiseC (.stat (.fn 661)) [.loc 51,.loc 11,.str [97,32,110,117,109,98,101,114,32,111,102,32,109,111,114,101,32,116,104,97,110,32,49,56,32,102,105,103,117,114,101,115]]] [],
 .ret (.loc 74)]⟩
noncomputable def Eu:aA:=⟨[51,109],[],[
 .asg 95 (.slice (.attr (.loc 51) 84) (.loc 109) (.bin .Add (.loc 109) (.int (2)))),
 .ite (.cmp (.loc 95) .Eq (.str [])) [.ret (.none)] [],
 .ite (.or (.and (.call (.stat (.fn 647)) [.sub (.loc 95) (.int (0))]) (.cmp (.sub (.loc 95) (.int (0))) .NotEq (.str [45]))) (.cmp (.sub (.loc 95) (.int (0))) .In (.stat (.str [34,39])))) [.raiseC (.stat (.fn 661)) [.loc 51,.loc 109,.str [97,32,98,108,97,110,107,32,105,115,32,109,105,115,115,105,110,103]]] [],
 .ite (.and (.cmp (.sub (.loc 95) (.int (0))) .Eq (.str [46])) (.and (.cmp (.slice (.loc 95) (.int (1)) (.none)) .NotEq (.str [])) (.cmp (.sub (.loc 95) (.int (1))) .In (.stat (.str [48,49,50,51,52,53,54,55,56,57]))))) [.raiseC (.stat (.fn 661)) [.loc 51,.loc 109,.str [97,32,98,108,97,110,107,32,105,115,32,109,105,115,115,105,110,103]]] []]⟩
noncomputable def Et:aA:=⟨[51,11],[],[
 .asg 111 (.slice (.attr (.loc 51) 84) (.loc 11) (.bin .Add (.loc 11) (.int (2)))),
 .ite (.cmp (.loc 111) .Eq (.str [61,61])) [.ret (.tup [.str [112,115,101,117,100,111],.loc 111])] [],
 .ite (.cmp (.loc 111) .In (.meth (.stat (.str [42,42,32,60,61,32,62,61])) 4 [.str [32]])) [.ret (.tup [.str [115,105,103,110],.loc 111])] [],
 .asg 22 (.sub (.attr (.loc 51) 84) (.loc 11)),
 .ite (.or (.cmp (.loc 22) .In (.stat (.str [40,41,58,43,45,42,47,61,60,62]))) (.and (.cmp (.loc 22) .Eq (.str [46])) (.call (.stat (.fn 654)) [.attr (.loc 51) 84,.bin .Add (.loc 11) (.int (1))]))) [.ret (.tup [.str [115,105,103,110],.loc 22])] [],
 .raiseC (.stat (.fn 661)) [.loc 51,.loc 11,.str [110,111,32,116,111,107,101,110,32,98,101,103,105,110,115,32,115,111]]]⟩
noncomputable def Bn:aA:=⟨[51,11],[],[
 .asg 22 (.call (.stat (.fn 635)) [.sub (.attr (.loc 51) 84) (.loc 11)]),
 .ite (.or (.cmp (.loc 22) .In (.stat (.str [65,66,67,68,69,70,71,72,73,74,75,76,77,78,79,80,81,82,83,84,85,86,87,88,89,90]))) (.cmp (.loc 22) .In (.stat (.str [48,49,50,51,52,53,54,55,56,57])))) [.asg 109 (.call (.stat (.fn 668)) [.attr (.loc 51) 84,.loc 11,.stat (.str [65,66,67,68,69,70,71,72,73,74,75,76,77,78,79,80,81,82,83,84,85,86,87,88,89,90,48,49,50,51,52,53,54,55,56,57,45])]),.asg 95 (.call (.stat (.fn 675)) [.attr (.loc 51) 84,.loc 11]),.ite (.and (.cmp (.loc 22) .In (.stat (.str [48,49,50,51,52,53,54,55,56,57]))) (.cmp (.loc 95) .GtE (.loc 109))) [.expr (.call (.stat (.fn 722)) [.loc 51,.loc 95]),.ret (.tup [.str [110,117,109,98,101,114],.call (.stat (.fn 701)) [.loc 51,.loc 11,.loc 95],.loc 95])] [],.expr (.call (.stat (.fn 722)) [.loc 51,.loc 109]),.ret (.tup [.str [119,111,114,100],.call (.stat (.fn 694)) [.loc 51,.loc 11,.loc 109],.loc 109])] [],
 .ite (.and (.cmp (.loc 22) .Eq (.str [46])) (.and (.cmp (.slice (.attr (.loc 51) 84) (.bin .Add (.loc 11) (.int (1))) (.bin .Add (.loc 11) (.int (2)))) .NotEq (.str [])) (.cmp (.sub (.attr (.loc 51) 84) (.bin .Add (.loc 11) (.int (1)))) .In (.stat (.str [48,49,50,51,52,53,54,55,56,57]))))) [.asg 109 (.call (.stat (.fn 668)) [.attr (.loc 51) 84,.bin .Add (.loc 11) (.int (1)),.stat (.str [48,49,50,51,52,53,54,55,56,57])]),.expr (.call (.stat (.fn 722)) [.loc 51,.loc 109]),.ret (.tup [.str [110,117,109,98,101,114],.call (.stat (.fn 701)) [.loc 51,.loc 11,.loc 109],.loc 109])] [],
 .ite (.cmp (.loc 22) .In (.stat (.str [34,39]))) [.asg 109 (.call (.stat (.fn 682)) [.loc 51,.loc 11]),.expr (.call (.stat (.fn 722)) [.loc 51,.loc 109]),.ret (.tup [.str [108,105,116,101,114,97,108],.call (.stat (.fn 708)) [.loc 51,.loc 11,.loc 109],.loc 109])] [],
 .asgT [102,74] (.call (.stat (.fn 729)) [.loc 51,.loc 11]),
 .ret (.tup [.loc 102,.loc 74,.bin .Add (.loc 11) (.call (.stat (.bf .len)) [.loc 74])])]⟩
noncomputable def DZ:aA:=⟨[84,11],[],[
 .ret (.or (.cmp (.sub (.loc 84) (.loc 11)) .Eq (.str [32])) (.and (.cmp (.sub (.loc 84) (.loc 11)) .In (.str [44,59])) (.call (.stat (.fn 654)) [.loc 84,.bin .Add (.loc 11) (.int (1))])))]⟩
noncomputable def Es:aA:=⟨[100],[],[
 .ret (.and (.cmp (.call (.stat (.bf .len)) [.loc 100]) .Gt (.int (0))) (.and (.cmp (.attr (.sub (.loc 100) (.neg (.int (1)))) 102) .Eq (.str [119,111,114,100])) (.cmp (.attr (.sub (.loc 100) (.neg (.int (1)))) 74) .In (.tup [.str [80,73,67],.str [80,73,67,84,85,82,69]]))))]⟩
noncomputable def iT:PE:=(.cmp (.loc 11) .Lt (.call (.stat (.bf .len)) [.attr (.loc 51) 84]))
noncomputable def kH:List PS:=[.ite (.call (.stat (.fn 743)) [.attr (.loc 51) 84,.loc 11]) [.asg 11 (.bin .Add (.loc 11) (.int (1))),.cont] [],.asg 113 (.sub (.attr (.loc 51) 86) (.loc 11)),.ite (.and (.call (.stat (.fn 750)) [.loc 100]) (.and (.not (.loc 112)) (.call (.stat (.fn 764)) [.attr (.loc 51) 84,.loc 11]))) [.asg 112 (.bool true),.asg 11 (.bin .Add (.loc 11) (.int (2))),.cont] [],.ite (.call (.stat (.fn 750)) [.loc 100]) [.asg 102 (.str [112,105,99,116,117,114,101]),.asgT [74,109] (.call (.stat (.fn 715)) [.loc 51,.loc 11])] [.asgT [102,74,109] (.call (.stat (.fn 736)) [.loc 51,.loc 11])],.expr (.meth (.loc 100) 0 [.call (.stat (.cls 624)) [.loc 102,.loc 74,.loc 113,.chain (.int (8)) .LtE (.sub (.loc 113) (.int (1))) .LtE (.int (11))]]),.asg 112 (.bool false),.asg 11 (.loc 109)]
noncomputable def Er:aA:=⟨[100,51],[],[
 .asg 11 (.int (0)),
 .asg 112 (.bool false),
 .whl iT kH]⟩
noncomputable def uw:List PS:=[.expr (.call (.stat (.fn 757)) [.loc 100,.loc 51])]
noncomputable def Ep:aA:=⟨[114],[],[
 .asg 100 (.list []),
 .for_ [51] true (.loc 114) uw,
 .ret (.loc 100)]⟩
noncomputable def Eo:aA:=⟨[115,116],[],[
 .asg 117 (.sub (.loc 115) (.int (0))),
 .asg 118 (.bin .Mod (.sub (.loc 115) (.int (1))) (.call (.stat (.bf .len)) [.loc 117])),
 .asgI (.loc 115) (.int (1)) (.bin .Add (.sub (.loc 115) (.int (1))) (.int (1))),
 .asg 119 (.sub (.loc 117) (.loc 118)),
 .asgI (.loc 117) (.loc 118) (.ite (.cmp (.call (.stat (.bf .abs)) [.loc 119]) .Gt (.loc 116)) (.bin .FloorDiv (.loc 119) (.loc 116)) (.bin .Add (.bin .Mult (.loc 119) (.int (31))) (.bin .Mult (.int (7)) (.sub (.loc 115) (.int (1)))))),
 .ret (.bin .Mod (.loc 119) (.loc 116))]⟩
noncomputable def At:List PS:=[.asg 48 (.call (.stat (.cls 172)) [.int (1),.sub (.loc 121) (.neg (.int (1)))]),.asgTA (.loc 48) 34 (.loc 48) 35 (.sub (.loc 85) (.tup [.loc 121])),.ite (.cmp (.loc 53) .NotEq (.str [])) [.expr (.meth (.sub (.loc 50) (.loc 53)) 123 [.loc 48])] [],.asgI (.loc 50) (.loc 121) (.loc 48)]
noncomputable def As:List PS:=[.asg 48 (.call (.stat (.cls 172)) [.int (1),.loc 121]),.asgTA (.loc 48) 34 (.loc 48) 35 (.sub (.loc 85) (.loc 122)),.ite (.cmp (.loc 121) .In (.loc 120)) [.asgA (.loc 48) 24 (.call (.stat (.cls 125)) [.sub (.loc 120) (.loc 121),.sub (.loc 120) (.loc 121)])] [],.ite (.cmp (.loc 53) .NotEq (.str [])) [.expr (.meth (.sub (.loc 50) (.loc 53)) 123 [.loc 48])] [],.asgI (.loc 50) (.loc 121) (.loc 48)]
noncomputable def GS:aA:=⟨[85,120],[],[
 .asgD [49,50] [.call (.stat (.cls 198)) [],.dict [] []],
 .for_ [121,53,122] false (.tup [.tup [.str [71],.str [],.tup [.str [71]]],.tup [.str [84],.str [71],.tup [.str [84],.int (1)]],.tup [.str [65],.str [84],.tup [.str [65],.int (1)]],.tup [.str [85],.str [84],.tup [.str [85],.int (1),.int (1)]],.tup [.str [66],.str [85],.tup [.str [66],.int (1),.int (1)]]]) As,
 .for_ [121,53] false (.tup [.tup [.str [72],.str []],.tup [.str [72,65],.str [72]]]) At,
 .asgA (.loc 49) 44 (.list [.sub (.loc 50) (.str [71])]),
 .asgA (.loc 49) 46 (.dict [[70]] [.list [.sub (.loc 50) (.str [72])]]),
 .ret (.loc 49)]⟩
noncomputable def Ar:List PS:=[.asgI (.loc 85) (.tup [.str [85],.loc 42,.loc 127]) (.tup [.loc 11,.loc 126]),.asgI (.loc 85) (.tup [.str [66],.loc 42,.loc 127]) (.tup [.loc 11,.loc 126]),.asg 11 (.bin .Add (.loc 11) (.loc 126))]
noncomputable def Aq:List PS:=[.asg 65 (.loc 11),.asgI (.loc 85) (.tup [.str [65],.loc 42]) (.tup [.loc 11,.loc 40]),.asg 11 (.bin .Add (.loc 11) (.loc 40)),.for_ [127] true (.call (.stat (.bt .range)) [.int (1),.bin .Add (.loc 125) (.int (1))]) Ar,.asgI (.loc 85) (.tup [.str [84],.loc 42]) (.tup [.loc 65,.bin .Sub (.loc 11) (.loc 65)])]
noncomputable def En:aA:=⟨[115],[],[
 .asgD [124,125] [.bin .Add (.int (1)) (.call (.stat (.fn 793)) [.loc 115,.int (3)]),.bin .Add (.int (1)) (.call (.stat (.fn 793)) [.loc 115,.int (3)])],
 .asgD [40,126] [.bin .Add (.int (1)) (.call (.stat (.fn 793)) [.loc 115,.int (3)]),.bin .Add (.int (1)) (.call (.stat (.fn 793)) [.loc 115,.int (3)])],
 .asgD [85,11] [.dict [] [],.int (3)],
 .for_ [42] true (.call (.stat (.bt .range)) [.int (1),.bin .Add (.loc 124) (.int (1))]) Aq,
 .asgI (.loc 85) (.tup [.str [71]]) (.tup [.int (3),.bin .Sub (.loc 11) (.int (3))]),
 .asgI (.loc 85) (.tup [.str [72]]) (.tup [.loc 11,.int (4)]),
 .asgI (.loc 85) (.tup [.str [72,65]]) (.tup [.loc 11,.int (4)]),
 .ret (.tup [.loc 85,.dict [[84],[85]] [.loc 124,.loc 125]])]⟩
noncomputable def nM:PE:=(.meth (.loc 56) 63 [.str [43]])
noncomputable def uv:List PS:=[.asg 50 (.tup [.str [43],.loc 50,.call (.stat (.fn 821)) [.loc 56]])]
noncomputable def Bm:aA:=⟨[56],[],[
 .asg 50 (.call (.stat (.fn 821)) [.loc 56]),
 .whl nM uv,
 .ret (.loc 50)]⟩
noncomputable def Bk:aA:=⟨[56],[],[
 .ite (.not (.meth (.loc 56) 63 [.str [40]])) [.retX (.stat (.fn 297)) [.loc 56,.stat (.fn 814)]] [],
 .asg 50 (.call (.stat (.fn 814)) [.loc 56]),
 .expr (.meth (.loc 56) 62 [.str [41]]),
 .ret (.loc 50)]⟩
noncomputable def DY:aA:=⟨[128],[],[
 .ite (.cmp (.sub (.loc 128) (.int (0))) .Eq (.str [43])) [.ret (.bin .Add (.call (.stat (.fn 828)) [.sub (.loc 128) (.int (1))]) (.call (.stat (.fn 828)) [.sub (.loc 128) (.int (2))]))] [],
 .ret (.sub (.sub (.loc 128) (.int (1))) (.int (0)))]⟩
noncomputable def DX:aA:=⟨[49,84],[],[
 .asg 56 (.call (.stat (.cls 594)) [.call (.stat (.fn 771)) [.list [.call (.stat (.cls 352)) [.loc 84,.comp (.tup [.int (1),.bin .Add (.int (8)) (.loc 11)]) 11 (.call (.stat (.bt .range)) [.call (.stat (.bf .len)) [.loc 84]]) (.bool true)]]]]),
 .try_ [.asg 129 (.call (.stat (.fn 276)) [.loc 56,.stat (.fn 814)]),.ite (.not (.meth (.loc 56) 130 [])) [.ret (.str [108,101,102,116])] [],.asg 70 (.sub (.loc 129) (.int (4))),.ite (.cmp (.loc 70) .IsNot (.none)) [.asg 70 (.tup [.call (.stat (.fn 828)) [.sub (.loc 70) (.int (0))],.ite (.cmp (.sub (.loc 70) (.int (1))) .Is (.none)) (.none) (.call (.stat (.fn 828)) [.sub (.loc 70) (.int (1))])])] [],.retX (.stat (.fn 328)) [.call (.stat (.fn 321)) [.loc 49,.sub (.loc 129) (.int (1)),.sub (.loc 129) (.int (2))],.comp (.call (.stat (.fn 828)) [.loc 128]) 128 (.sub (.loc 129) (.int (3))) (.bool true),.loc 70]] [(84,[99,104,101,99,107]),(96,[114,117,110]),(72,[103,114,97,109,109,97,114])]]⟩
noncomputable def Bj:aA:=⟨[115,94],[],[
 .asg 131 (.call (.stat (.fn 793)) [.loc 115,.int (4)]),
 .ite (.and (.cmp (.loc 131) .Eq (.int (1))) (.cmp (.loc 94) .Gt (.int (0)))) [.ret (.bin .Add (.call (.stat (.bt .str)) [.bin .Sub (.loc 94) (.int (1))]) (.str [32,43,32,49]))] [],
 .ite (.cmp (.loc 131) .Eq (.int (2))) [.ret (.bin .Add (.bin .Add (.str [48,32,43,32,40]) (.call (.stat (.bt .str)) [.loc 94])) (.str [32,43,32,48,41]))] [],
 .ret (.call (.stat (.bt .str)) [.loc 94])]⟩
noncomputable def gS:List PS:=[.asgT [84,121,124] (.sub (.stat (.tup [.tup [.str [65,32,79,70,32,84],.str [65],.int (1)],.tup [.str [65,32,73,78,32,71],.str [65],.int (1)],.tup [.str [65,32,79,70,32,72],.str [72,65],.int (0)],.tup [.str [66],.str [66],.int (2)],.tup [.str [98,32,111,102,32,85,32,105,110,32,84,32,111,102,32,71],.str [66],.int (2)],.tup [.str [85],.str [85],.int (2)],.tup [.str [84,32,73,78,32,71],.str [84],.int (1)],.tup [.str [71],.str [71],.int (0)],.tup [.str [65,32,73,78,32,70],.str [72,65],.int (0)],.tup [.str [72,32,79,70,32,70],.str [72],.int (0)],.tup [.str [65],.str [],.int (0)],.tup [.str [66,32,79,70,32,72],.str [],.int (2)],.tup [.str [65,32,79,70,32,71,32,79,70,32,84],.str [],.int (1)],.tup [.str [85,45,49],.str [],.int (0)]])) (.call (.stat (.fn 793)) [.loc 115,.int (14)])),.asg 98 (.comp (.bin .Sub (.bin .Add (.call (.stat (.fn 793)) [.loc 115,.int (3)]) (.int (1))) (.bin .FloorDiv (.call (.stat (.fn 793)) [.loc 115,.int (5)]) (.int (4)))) 118 (.call (.stat (.bt .range)) [.loc 124]) (.bool true)),.asg 134 (.call (.stat (.fn 793)) [.loc 115,.int (7)]),.asg 98 (.ite (.cmp (.loc 134) .Eq (.int (5))) (.bin .Add (.loc 98) (.list [.int (1)])) (.ite (.cmp (.loc 134) .Eq (.int (6))) (.slice (.loc 98) (.int (1)) (.none)) (.loc 98))),.ite (.cmp (.loc 98) .NotEq (.list [])) [.asg 84 (.bin .Add (.bin .Add (.bin .Add (.loc 84) (.str [32,40])) (.meth (.str [32]) 5 [.comp (.call (.stat (.fn 840)) [.loc 115,.loc 94]) 94 (.loc 98) (.bool true)])) (.str [41]))] [],.asg 135 (.ite (.cmp (.loc 121) .Eq (.str [])) (.str [99,104,101,99,107]) (.meth (.loc 85) 3 [.bin .Add (.tup [.loc 121]) (.call (.stat (.bt .tuple)) [.loc 98]),.str [114,117,110]])),.asg 131 (.call (.stat (.fn 793)) [.loc 115,.int (3)]),.asgD [65,66] [.call (.stat (.fn 793)) [.loc 115,.int (5)],.call (.stat (.fn 793)) [.loc 115,.int (5)]],.ite (.cmp (.loc 131) .Gt (.int (0))) [.asg 84 (.bin .Add (.bin .Add (.bin .Add (.bin .Add (.bin .Add (.loc 84) (.str [32,40])) (.call (.stat (.fn 840)) [.loc 115,.loc 65])) (.str [32,58])) (.ite (.cmp (.loc 131) .Eq (.int (2))) (.bin .Add (.str [32]) (.call (.stat (.fn 840)) [.loc 115,.loc 66])) (.str []))) (.str [41]))] [],.ite (.and (.cmp (.loc 131) .Gt (.int (0))) (.call (.stat (.bf .isinst)) [.loc 135,.stat (.bt .tuple)])) [.asg 136 (.slice (.call (.stat (.bt .list)) [.call (.stat (.bt .range)) [.sub (.loc 135) (.int (0)),.bin .Add (.sub (.loc 135) (.int (0))) (.sub (.loc 135) (.int (1)))]]) (.call (.stat (.bf .max)) [.bin .Sub (.loc 65) (.int (1)),.int (0)]) (.none)),.asg 35 (.ite (.cmp (.loc 131) .Eq (.int (2))) (.loc 66) (.call (.stat (.bf .len)) [.loc 136])),.asg 135 (.ite (.and (.cmp (.loc 65) .Gt (.int (0))) (.chain (.int (0)) .Lt (.loc 35) .LtE (.call (.stat (.bf .len)) [.loc 136]))) (.tup [.sub (.loc 136) (.int (0)),.loc 35]) (.str [114,117,110]))] [],.ite (.cmp (.call (.stat (.fn 833)) [.loc 49,.loc 84]) .NotEq (.loc 135)) [.ret (.bool false)] [],.ite (.and (.cmp (.sub (.loc 84) (.neg (.int (1)))) .Eq (.str [41])) (.cmp (.call (.stat (.fn 833)) [.loc 49,.slice (.loc 84) (.none) (.neg (.int (1)))]) .NotEq (.str [103,114,97,109,109,97,114]))) [.ret (.bool false)] []]
noncomputable def s6:aA:=⟨[132],[],[
 .asg 115 (.list [.or (.call (.stat (.bt .list)) [.slice (.loc 132) (.none) (.int (60))]) (.list [.int (0)]),.int (0)]),
 .asgT [85,120] (.call (.stat (.fn 807)) [.loc 115]),
 .asg 49 (.call (.stat (.fn 800)) [.loc 85,.loc 120]),
 .for_ [133] true (.call (.stat (.bt .range)) [.int (4)]) gS,
 .ret (.bool true)]⟩
noncomputable def fnT:List (Addr×aA):=[(37,f37),(115,H9),(143,H8),(150,H7),(190,H6),(209,H5),(216,H4),(223,H3),(230,H0),(237,GZ),(242,GY),(247,GX),(255,E7),(262,E6),(269,Bc),(276,vW),(290,EU),(297,E5),(302,GW),(309,GV),(316,GU),(321,GT),(328,Bp),(342,ET),(371,ES),(406,ER),(413,EQ),(420,EP),(440,EO),(448,E4),(455,EN),(462,EM),(469,EL),(477,EK),(484,EJ),(491,E3),(505,Bo),(520,EH),(527,E2),(542,EG),(549,E1),(556,E0),(563,EF),(570,EE),(614,ED),(635,EC),(640,EB),(647,EA),(668,Ez),(675,Ey),(694,Ew),(701,Ev),(722,Eu),(729,Et),(736,Bn),(743,DZ),(750,Es),(757,Er),(771,Ep),(793,Eo),(800,GS),(807,En),(814,Bm),(821,Bk),(828,DY),(833,DX),(840,Bj),(845,s6)]
noncomputable def clT:List (Addr×iK):=[(60,⟨true,37,[]⟩),(72,⟨true,37,[]⟩),(84,⟨true,37,[]⟩),(96,⟨true,37,[]⟩),(125,⟨false,115,[(12,115),(39,122)]⟩),(172,⟨false,143,[(12,143),(39,169),(43,164),(123,150)]⟩),(198,⟨false,190,[(12,190),(39,195)]⟩),(352,⟨false,342,[(12,342),(39,349)]⟩),(594,⟨false,440,[(12,440),(19,527),(59,542),(60,448),(62,556),(63,549),(64,462),(68,505),(71,477),(72,591),(75,469),(76,563),(77,570),(78,491),(97,512),(104,484),(105,520),(130,455)]⟩),(624,⟨false,614,[(12,614),(39,621)]⟩)]
noncomputable def PT0:PT:=⟨fnT,clT⟩
end
section
theorem eD {α β:Type} {m q:R α} {f:α->H->R β} {r:R β} (e:m=q) (e2:R.bd q f=r):R.bd m f=r:=e▸e2
theorem aD {α β:Type} {m:R α} {a:α} {h:H} {f:α->H->R β} {r:R β} (e:m=.ok a h) (e2:f a h=r):R.bd m f=r:=by rw [e];exact e2
theorem ck {m q:R (Fl×Loc)} {k:Loc->H->R (Fl×Loc)} {r:R (Fl×Loc)} (e:m=q) (e2:bS q k=r):bS m k=r:=e▸e2
theorem jy {m q:R (Fl×Loc)} {k:Loc->H->R (Fl×Loc)} {r:R (Fl×Loc)} (e:m=q) (e2:bL q k=r):bL m k=r:=e▸e2
theorem DK {α β:Type} {c:Addr} {h:H} {f:α->H->R β}:R.bd (.exc c h) f=.exc c h:=rfl
theorem c_t {α:Type} {q:Bool} {a b r:α} (hq:q=true) (e:a=r):cond q a b=r:=by rw [hq];exact e
theorem c_f {α:Type} {q:Bool} {a b r:α} (hq:q=false) (e:b=r):cond q a b=r:=by rw [hq];exact e
theorem aS {ρ:Loc} {h:H} {k:Loc->H->R (Fl×Loc)} {r:R (Fl×Loc)} (e:k ρ h=r):bS (.ok (.next,ρ) h) k=r:=e
theorem oZ {v:V} {ρ:Loc} {h:H} {k:Loc->H->R (Fl×Loc)}:bS (.ok (.ret v,ρ) h) k=.ok (.ret v,ρ) h:=rfl
theorem B5 {ρ:Loc} {h:H} {k:Loc->H->R (Fl×Loc)}:bS (.ok (.cont,ρ) h) k=.ok (.cont,ρ) h:=rfl
theorem DL {c:Addr} {h:H} {k:Loc->H->R (Fl×Loc)}:bS (.exc c h) k=.exc c h:=rfl
theorem nS {ρ:Loc} {h:H} {k:Loc->H->R (Fl×Loc)} {r:R (Fl×Loc)} (e:k ρ h=r):bL (.ok (.next,ρ) h) k=r:=e
theorem uN {ρ:Loc} {h:H} {k:Loc->H->R (Fl×Loc)} {r:R (Fl×Loc)} (e:k ρ h=r):bL (.ok (.cont,ρ) h) k=r:=e
theorem pd {v:V} {ρ:Loc} {h:H} {k:Loc->H->R (Fl×Loc)}:bL (.ok (.ret v,ρ) h) k=.ok (.ret v,ρ) h:=rfl
theorem ph {c:Addr} {h:H} {k:Loc->H->R (Fl×Loc)}:bL (.exc c h) k=.exc c h:=rfl
theorem aK {α β:Type} {o:Option β} {x:β} {f:β->R α} {r:R α} (e:o=some x) (e2:f x=r):bq o f=r:=by rw [e];exact e2
theorem bH {α:Type} {o:Option α} {a:α} {h:H} (e:o=some a):eB o h=.ok a h:=by rw [e];rfl
theorem iH {α:Type} {b:Bool} {m:R α} (e:b=true):ifR b m=m:=by rw [e];rfl
theorem ce {α:Type} {b:Bool} {m:Option α} (e:b=true):ifO b m=m:=by rw [e];rfl
section
variable {P:PT} {cf:V->List V->PM V} {ρ:Loc} {h h1 h2 h3:H} {lim:Nat} {e e' a b c:PE} {v v' g:V} {vs:List V} {as es:List PE} {r:R V} {q:Bool} {x:Nat}
theorem Dn:ev P cf .none ρ h=.ok .none h:=rfl
theorem Dr {b:Bool}:ev P cf (.bool b) ρ h=.ok (.bool b) h:=rfl
theorem G7 {i:Int}:ev P cf (.int i) ρ h=.ok (.int i) h:=rfl
theorem FY {s:List Nat}:ev P cf (.str s) ρ h=.ok (.str s) h:=rfl
theorem C1 (e:ρ.lookup x=some v):ev P cf (.loc x) ρ h=.ok v h:=bH e
theorem Dm:ev P cf (.stat v) ρ h=.ok v h:=rfl
theorem Ds (e1:ev P cf e ρ h=.ok v h1) (e2:getAttr P v x h1=r):ev P cf (.attr e x) ρ h=r:=aD e1 e2
theorem Dq (e2:evs P cf as ρ h=.ok vs h1) (e3:bJ cf g vs h1=r):ev P cf (.call (.stat g) as) ρ h=r:=aD (m:=evs P cf as ρ h) e2 e3
theorem AL (e1:ρ.lookup x=some g) (e2:evs P cf as ρ h=.ok vs h1) (e3:bJ cf g vs h1=r):ev P cf (.call (.loc x) as) ρ h=r:=aD (C1 e1) (aD e2 e3)
theorem Do {m:Mth} (e1:ev P cf e ρ h=.ok v h1) (e2:jt P v x h1=.ok m h1) (e3:evs P cf as ρ h1=.ok vs h2) (e4:fJ cf m v x vs h2=r):ev P cf (.meth e x as) ρ h=r:=aD e1 (aD e2 (aD e3 e4))
theorem BZ (e1:ev P cf a ρ h=.ok v h1) (e2:ev P cf b ρ h1=.ok v' h2) (e3:getItem v v' h2=r):ev P cf (.sub a b) ρ h=r:=aD e1 (aD e2 e3)
theorem AJ (e1:ev P cf a ρ h=.ok v h1) (e2:ev P cf b ρ h1=.ok v' h2) (e3:ev P cf c ρ h2=.ok g h3) (e4:dp v v' g h3=r):ev P cf (.slice a b c) ρ h=r:=aD e1 (aD e2 (aD e3 e4))
theorem G9 {op:Operator} (e1:ev P cf a ρ h=.ok v h1) (e2:ev P cf b ρ h1=.ok v' h2) (e3:fK op v v' h2=r):ev P cf (.bin op a b) ρ h=r:=aD e1 (aD e2 e3)
theorem G0 {i:Int} (e1:ev P cf a ρ h=.ok (.int i) h1):ev P cf (.neg a) ρ h=.ok (.int (-i)) h1:=aD e1 rfl
theorem FZ (e1:ev P cf a ρ h=.ok v h1) (e2:truthy v h1=some q):ev P cf (.not a) ρ h=.ok (.bool (!q)) h1:=aD e1 (by rw [e2];rfl)
theorem G8 {op:CmpOp} (e1:ev P cf a ρ h=.ok v h1) (e2:ev P cf b ρ h1=.ok v' h2) (e3:aH op v v' h2=some q):ev P cf (.cmp a op b) ρ h=.ok (.bool q) h2:=aD e1 (aD e2 (by rw [e3];rfl))
theorem Ga (e1:ev P cf a ρ h=.ok v h1) (e2:truthy v h1=some q) (e3:cond q (ev P cf b ρ h1) (.ok v h1)=r):ev P cf (.and a b) ρ h=r:=aD e1 (aK e2 e3)
theorem Hy (e1:ev P cf a ρ h=.ok v h1) (e2:truthy v h1=some q) (e3:cond q (.ok v h1) (ev P cf b ρ h1)=r):ev P cf (.or a b) ρ h=r:=aD e1 (aK e2 e3)
theorem G5 (e1:evT P cf c ρ h=.ok q h1) (e2:cond q (ev P cf a ρ h1) (ev P cf b ρ h1)=r):ev P cf (.ite c a b) ρ h=r:=aD (m:=evT P cf c ρ h) e1 e2
theorem FW (e1:evs P cf es ρ h=.ok vs h1) (e2:okT vs=true):ev P cf (.tup es) ρ h=.ok (.tup vs) h1:=aD (m:=evs P cf es ρ h) e1 (iH e2)
theorem yF (e1:evs P cf es ρ h=.ok vs h1) (e2:newList vs h1=r):ev P cf (.list es) ρ h=r:=aD (m:=evs P cf es ρ h) e1 e2
theorem Dp {ks:List (List Nat)} (e1:evs P cf es ρ h=.ok vs h1) (e2:eN ks vs h1=r):ev P cf (.dict ks es) ρ h=r:=aD (m:=evs P cf es ρ h) e1 e2
theorem Dl:evs P cf [] ρ h=.ok [] h:=rfl
theorem uG (e1:ev P cf e ρ h=.ok v h1) (e2:evs P cf es ρ h1=.ok vs h2):evs P cf (e::es) ρ h=.ok (v::vs) h2:=aD e1 (aD e2 rfl)
variable {t:R Bool}
theorem Co {b:Bool}:evT P cf (.bool b) ρ h=.ok b h:=rfl
theorem BD (e1:evT P cf a ρ h=.ok q h1):evT P cf (.not a) ρ h=.ok (!q) h1:=aD (m:=evT P cf a ρ h) e1 rfl
theorem Fm (e1:evT P cf a ρ h=.ok q h1) (e2:cond q (evT P cf b ρ h1) (.ok false h1)=t):evT P cf (.and a b) ρ h=t:=aD (m:=evT P cf a ρ h) e1 e2
theorem Hl (e1:evT P cf a ρ h=.ok q h1) (e2:cond q (.ok true h1) (evT P cf b ρ h1)=t):evT P cf (.or a b) ρ h=t:=aD (m:=evT P cf a ρ h) e1 e2
theorem Fk {op:CmpOp} (e1:ev P cf a ρ h=.ok v h1) (e2:ev P cf b ρ h1=.ok v' h2) (e3:aH op v v' h2=some q):evT P cf (.cmp a op b) ρ h=.ok q h2:=aD (m:=ev P cf a ρ h) e1 (aD e2 (bH e3))
theorem zb {op op2:CmpOp} (e1:ev P cf a ρ h=.ok v h1) (e2:ev P cf b ρ h1=.ok v' h2) (e3:aH op v v' h2=some q) (e4:cond q ((ev P cf c ρ h2).bd fun z h=>eB (aH op2 v' z h) h) (.ok false h2)=t):evT P cf (.chain a op b op2 c) ρ h=t:=aD (m:=ev P cf a ρ h) e1 (aD e2 (aK e3 e4))
theorem AK {op op2:CmpOp} (e1:ev P cf a ρ h=.ok v h1) (e2:ev P cf b ρ h1=.ok v' h2) (e3:aH op v v' h2=some q) (e4:cond q ((ev P cf c ρ h2).bd fun z h=>eB ((aH op2 v' z h).map .bool) h) (.ok (.bool false) h2)=r):ev P cf (.chain a op b op2 c) ρ h=r:=aD e1 (aD e2 (aK e3 e4))
theorem AW {op:CmpOp} (e1:ev P cf c ρ h=.ok v' h1) (e2:aH op v v' h1=some q):((ev P cf c ρ h).bd fun z h=>eB (aH op v z h) h)=.ok q h1:=aD e1 (bH e2)
theorem AY {op:CmpOp} (e1:ev P cf c ρ h=.ok v' h1) (e2:aH op v v' h1=some q):((ev P cf c ρ h).bd fun z h=>eB ((aH op v z h).map V.bool) h)=R.ok (V.bool q) h1:=aD e1 (by rw [e2];rfl)
theorem Fj (e:ρ.lookup x=some v) (e2:truthy v h=some q):evT P cf (.loc x) ρ h=.ok q h:=aK e (bH e2)
theorem Cn (e2:evs P cf as ρ h=.ok vs h1) (e3:bJ cf g vs h1=.ok v h2) (e4:truthy v h2=some q):evT P cf (.call (.stat g) as) ρ h=.ok q h2:=aD (m:=evs P cf as ρ h) e2 (aD e3 (bH e4))
theorem Cm {m:Mth} (e1:ev P cf e ρ h=.ok v h1) (e2:jt P v x h1=.ok m h1) (e3:evs P cf as ρ h1=.ok vs h2) (e4:fJ cf m v x vs h2=.ok v' h3) (e5:truthy v' h3=some q):evT P cf (.meth e x as) ρ h=.ok q h3:=aD (m:=ev P cf e ρ h) e1 (aD e2 (aD e3 (aD e4 (bH e5))))
theorem Cp (e1:ev P cf e ρ h=.ok v h1) (e2:getAttr P v x h1=.ok v' h2) (e3:truthy v' h2=some q):evT P cf (.attr e x) ρ h=.ok q h2:=aD (m:=ev P cf e ρ h) e1 (aD e2 (bH e3))
noncomputable def fx (P:PT) (cf:V->List V->PM V) (elt:PE) (x:Nat) (c:PE) (ρ:Loc) (v:V) (h:H):R (Option V):=bB (evT P cf c ((x,v)::ρ) h) (fun h=>(ev P cf elt ((x,v)::ρ) h).bd fun y h=>.ok (some y) h) (fun h=>.ok none h)
noncomputable def BN (y:V) (h:H):R (Option V):=.ok (some y) h
theorem AQ {elt:PE} {r:R (Option V)} (e1:evT P cf c ((x,v)::ρ) h=.ok q h1) (e2:cond q ((ev P cf elt ((x,v)::ρ) h1).bd BN) (.ok none h1)=r):fx P cf elt x c ρ v h=r:=aD (m:=evT P cf c ((x,v)::ρ) h) e1 e2
theorem zh (e:ev P cf e' ρ h=.ok v h1):(ev P cf e' ρ h).bd BN=.ok (some v) h1:=aD e rfl
theorem jQ {elt it:PE} {all ys:List V} (e1:ev P cf it ρ h=.ok v h1) (e2:items v h1=some all) (e3:noExc (bN (b5 (isL v h1) v all) (fx P cf elt x c ρ) 100000 0 [] h1)=.ok ys h2) (e4:newList ys h2=r):ev P cf (.comp elt x it c) ρ h=r:=aD e1 (aK e2 (aD e3 e4))
noncomputable def BO (ρ:Loc) (_:V) (h:H):R (Fl×Loc):=.ok (.next,ρ) h
noncomputable def GO (x:Nat) (ρ:Loc) (v:V) (h:H):R (Fl×Loc):=.ok (.next,(x,v)::ρ) h
noncomputable def BP (xs:List Nat) (ρ:Loc) (v:V) (h:H):R (Fl×Loc):=bq (v.tup?.bind fun vs=>aE xs vs ρ) fun ρ'=>.ok (.next,ρ') h
noncomputable def BR (xs:List Nat) (ρ:Loc) (vs:List V) (h:H):R (Fl×Loc):=bq (aE xs vs ρ) fun ρ'=>.ok (.next,ρ') h
noncomputable def BS (P:PT) (cf:V->List V->PM V) (o:PE) (x:Nat) (ρ:Loc) (v:V) (h:H):R (Fl×Loc):=(ev P cf o ρ h).bd fun w h=>(setAttr P w x v h).bd fun Z h=>.ok (.next,ρ) h
noncomputable def BQ (P:PT) (cf:V->List V->PM V) (o i:PE) (ρ:Loc) (v:V) (h:H):R (Fl×Loc):=(ev P cf o ρ h).bd fun w h=>(ev P cf i ρ h).bd fun k h=>(setItem w k v h).bd fun Z h=>.ok (.next,ρ) h
noncomputable def Ek (ρ:Loc) (v:V) (h:H):R (Fl×Loc):=.ok (.ret v,ρ) h
variable {m:R V} {s:R (Fl×Loc)} {xs:List Nat} {u:Unit} {ρ':Loc}
theorem Cc (e1:ev P cf e ρ h=m) (e2:m.bd (BO ρ)=s):ex P cf lim (.expr e) ρ h=s:=eD (m:=ev P cf e ρ h) e1 e2
theorem zW:(R.ok v h).bd (BO ρ)=.ok (.next,ρ) h:=rfl
theorem w6 (e1:ev P cf e ρ h=m) (e2:m.bd (GO x ρ)=s):ex P cf lim (.asg x e) ρ h=s:=eD (m:=ev P cf e ρ h) e1 e2
theorem CT:(R.ok v h).bd (GO x ρ)=.ok (.next,(x,v)::ρ) h:=rfl
theorem xV (e1:ev P cf e ρ h=m) (e2:m.bd (BP xs ρ)=s):ex P cf lim (.asgT xs e) ρ h=s:=eD (m:=ev P cf e ρ h) e1 e2
theorem zX (e:(v.tup?.bind fun vs=>aE xs vs ρ)=some ρ'):(R.ok v h).bd (BP xs ρ)=.ok (.next,ρ') h:=aK e rfl
theorem Cf {m:R (List V)} (e1:evs P cf es ρ h=m) (e2:m.bd (BR xs ρ)=s):ex P cf lim (.asgD xs es) ρ h=s:=eD (m:=evs P cf es ρ h) e1 e2
theorem zZ (e:aE xs vs ρ=some ρ'):(R.ok vs h).bd (BR xs ρ)=.ok (.next,ρ') h:=aK e rfl
theorem Cg {o:PE} (e1:ev P cf e ρ h=m) (e2:m.bd (BS P cf o x ρ)=s):ex P cf lim (.asgA o x e) ρ h=s:=eD (m:=ev P cf e ρ h) e1 e2
theorem A0 {o:PE} (e1:ev P cf o ρ h=.ok v' h1) (e2:setAttr P v' x v h1=.ok u h2):(R.ok v h).bd (BS P cf o x ρ)=.ok (.next,ρ) h2:=aD (m:=ev P cf o ρ h) e1 (aD e2 rfl)
theorem Ce {o i:PE} (e1:ev P cf e ρ h=m) (e2:m.bd (BQ P cf o i ρ)=s):ex P cf lim (.asgI o i e) ρ h=s:=eD (m:=ev P cf e ρ h) e1 e2
theorem zY {o i:PE} (e1:ev P cf o ρ h=.ok v' h1) (e2:ev P cf i ρ h1=.ok g h2) (e3:setItem v' g v h2=.ok u h3):(R.ok v h).bd (BQ P cf o i ρ)=.ok (.next,ρ) h3:=aD (m:=ev P cf o ρ h) e1 (aD e2 (aD e3 rfl))
theorem Fa (e1:ev P cf e ρ h=m) (e2:m.bd (Ek ρ)=s):ex P cf lim (.ret e) ρ h=s:=eD (m:=ev P cf e ρ h) e1 e2
theorem CS:(R.ok v h).bd (Ek ρ)=.ok (.ret v,ρ) h:=rfl
theorem Fb {y z:List PS} (e1:evT P cf c ρ h=.ok q h1) (e2:cond q (exs P cf lim y ρ h1) (exs P cf lim z ρ h1)=s):ex P cf lim (.ite c y z) ρ h=s:=aD (m:=evT P cf c ρ h) e1 e2
theorem F9 {y:List PS} (e:cZ (evT P cf c) (exs P cf lim y) lim ρ h=s):ex P cf lim (.whl c y) ρ h=s:=e
theorem Fc {k:Bool} {it:PE} {y:List PS} {all:List V} (e1:ev P cf it ρ h=.ok v h1) (e2:items v h1=some all) (e3:fH (b5 (isL v h1) v all) (oH xs k) (exs P cf lim y) 100000 0 ρ h1=s):ex P cf lim (.for_ xs k it y) ρ h=s:=aD (m:=ev P cf it ρ h) e1 (aK e2 e3)
theorem Bw {a b:PE} {y:List PS} (e1:ev P cf a ρ h=.ok v h1) (e2:ev P cf b ρ h1=.ok v' h2) (e3:fH (d6 v v') (oH xs false) (exs P cf lim y) 100000 0 ρ h2=s):ex P cf lim (.forZip xs a b y) ρ h=s:=aD (m:=ev P cf a ρ h) e1 (aD e2 e3)
theorem wo {d:Addr} (e2:evs P cf as ρ h=.ok vs h1) (e3:gH cf g vs h1=.ok (.exc d) h2):ex P cf lim (.raiseC (.stat g) as) ρ h=.exc d h2:=aD (m:=evs P cf as ρ h) e2 (aD e3 rfl)
theorem wn {mt:Mth} {d:Addr} (e1:ev P cf e ρ h=.ok v h1) (e2:jt P v x h1=.ok mt h1) (e3:evs P cf as ρ h1=.ok vs h2) (e4:fZ cf mt v vs h2=.ok (.exc d) h3):ex P cf lim (.raiseM e x as) ρ h=.exc d h3:=aD (m:=ev P cf e ρ h) e1 (aD e2 (aD e3 (aD e4 rfl)))
theorem Cb (e2:evs P cf as ρ h=.ok vs h1) (e3:gH cf g vs h1=m) (e4:m.bd (Ek ρ)=s):ex P cf lim (.retX (.stat g) as) ρ h=s:=aD (m:=evs P cf as ρ h) e2 (eD e3 e4)
theorem Cd:ex P cf lim .cont ρ h=.ok (.cont,ρ) h:=rfl
theorem wk {b:List PS} {hs:List (Addr×List Nat)} {q:Fl×Loc} {h':H} (e:exs P cf lim b ρ h=.ok q h'):ex P cf lim (.try_ b hs) ρ h=.ok q h':=by
 show caught P hs ρ (exs P cf lim b ρ h)=_
 rw [e];rfl
theorem m9 {b:List PS} {hs:List (Addr×List Nat)} {c:Addr} {t:List Nat} {h':H} (e:exs P cf lim b ρ h=.exc c h') (hx:isX P c=true) (ht:exh P c hs=some t):ex P cf lim (.try_ b hs) ρ h=.ok (.ret (.str t),ρ) h':=by
 show caught P hs ρ (exs P cf lim b ρ h)=_
 rw [e]
 show bq (ifO (isX P c) (exh P c hs)) _=_
 rw [hx,ht];rfl
theorem sr:exs P cf lim [] ρ h=.ok (.next,ρ) h:=rfl
theorem aQ {st:PS} {rest:List PS}:exs P cf lim (st::rest) ρ h=bS (ex P cf lim st ρ h) (exs P cf lim rest):=rfl
theorem F8 {st:PS} {rest:List PS} {m:R (Fl×Loc)} (e1:ex P cf lim st ρ h=m) (e2:bS m (exs P cf lim rest)=s):exs P cf lim (st::rest) ρ h=s:=ck (m:=ex P cf lim st ρ h) e1 e2
theorem eY {t:Loc->PM Bool} {b:Loc->PM (Fl×Loc)} {n:Nat} (e1:t ρ h=.ok q h1) (e2:cond q (bL (b ρ h1) (cZ t b n)) (.ok (.next,ρ) h1)=s):cZ t b (n+1) ρ h=s:=aD e1 e2
theorem nJ {nx:Nat->H->Option (Option V)} {st:V->Loc->Option Loc} {b:Loc->PM (Fl×Loc)} {n i:Nat} (e:nx i h=some none):fH nx st b (n+1) i ρ h=.ok (.next,ρ) h:=aK e rfl
theorem fg {nx:Nat->H->Option (Option V)} {st:V->Loc->Option Loc} {b:Loc->PM (Fl×Loc)} {n i:Nat} {v:V} {ρ₁:Loc} {r:R (Fl×Loc)} (e:nx i h=some (some v)) (e2:st v ρ=some ρ₁)
  (e3:bL (b ρ₁ h) (fH nx st b n (i+1))=r):fH nx st b (n+1) i ρ h=r:=aK e (aK e2 e3)
theorem gT {nx:Nat->H->Option (Option V)} {el:V->PM (Option V)} {n i:Nat} {acc:List V} (e:nx i h=some none):bN nx el (n+1) i acc h=.ok acc h:=aK e rfl
theorem lh {nx:Nat->H->Option (Option V)} {el:V->PM (Option V)} {n i:Nat} {acc:List V} {v:V} {g:Option V} {h':H} {r:R (List V)} (e:nx i h=some (some v)) (e2:el v h=.ok g h')
  (e3:bN nx el n (i+1) (xT acc g) h'=r):bN nx el (n+1) i acc h=r:=aK e (aD e2 e3)
theorem xE {nx:Nat->H->Option (Option V)} {el:V->PM (Option V)} {xs:List V} {g:V->Option V} {I:H->Prop}
  (hn:∀i h,I h->nx i h=some xs[i]?) (he:∀v∈xs,∀h,I h->∃h',el v h=.ok (g v) h'/\I h'):
  ∀m i acc h,xs.length<=m+i->I h->∃h',bN nx el (m+1) i acc h=.ok (acc++(xs.drop i).filterMap g) h'/\I h':=by
 intro m
 induction m with
 |zero=>
  intro i acc h hl hI
  refine ⟨h,?_,hI⟩
  rw [gT ((hn i h hI).trans (by rw [HQ (by omega)])),HR (by omega),List.filterMap_nil,th]
 |succ m ih=>
  intro i acc h hl hI
  by_cases hi:i < xs.length
  ·obtain ⟨h',e,hI'⟩:=he xs[i] (List.getElem_mem hi) h hI
   obtain ⟨h'',e2,hI''⟩:=ih (i+1) (xT acc (g xs[i])) h' (by omega) hI'
   refine ⟨h'',lh ((hn i h hI).trans (by rw [HJ hi])) e (e2.trans ?_),hI''⟩
   rw [List.drop_eq_getElem_cons hi,List.filterMap_cons]
   rcases g xs[i] with _|y
   ·rfl
   ·exact congrArg (fun l=>R.ok l h'') (HT ..)
  ·refine ⟨h,?_,hI⟩
   rw [gT ((hn i h hI).trans (by rw [HQ (by omega)])),HR (by omega),List.filterMap_nil,th]
end
theorem iu {v:V} {ρ:Loc} {h:H}:(R.ok (Fl.ret v,ρ) h).bd qp=.ok v h:=rfl
theorem vd {ρ:Loc} {h:H}:(R.ok (Fl.next,ρ) h).bd qp=.ok .none h:=rfl
theorem af {P:PT} {lim n:Nat} {f:Addr} {as:List V} {h:H} {fi:aA} {ρ:Loc} {r:R V} (e1:P.fn.lookup f=some fi) (e2:aZ fi.params as fi.dflts=some ρ)
  (e3:(exs P (a9 P lim n) lim fi.body ρ h).bd qp=r):a9 P lim (n+1) (.fn f) as h=r:=aK e1 (aK e2 e3)
theorem l6 {P:PT} {lim n:Nat} {c:Addr} {as:List V} {h h':H} {ci:iK} (e1:P.cl.lookup c=some ci) (e2:ci.exc=false)
  (e3:a9 P lim n (.fn ci.init) (.ref h.length::as) (h++[.inst c []])=.ok .none h'):
  a9 P lim (n+1) (.cls c) as h=.ok (.ref h.length) h':=aK e1 (by rw [e2];exact aD e3 rfl)
theorem l5 {P:PT} {lim n:Nat} {c:Addr} {as:List V} {h:H} {ci:iK} (e1:P.cl.lookup c=some ci) (e2:ci.exc=true) (e3:kM as=true):
  a9 P lim (n+1) (.cls c) as h=.ok (.exc c) h:=aK e1 (by rw [e2];exact iH e3)
end
section
theorem aN {h:H} {o:O}:(h++[o])[h.length]?=some o:=List.getElem?_concat_length
theorem ax {h g:H} {n:Nat} {o:O} (e:h[n]?=some o):(h++g)[n]?=some o:=by
 have:=(List.getElem?_eq_some_iff.1 e).1
 rw [HK this];exact e
theorem dF {h:H} {n:Nat} {o p:O} (e:h[n]?=some o):(h.set n p)[n]?=some p:=by
 have:=(List.getElem?_eq_some_iff.1 e).1
 simp [this]
theorem bR {h:H} {m n:Nat} {o p:O} (ne:m≠n) (e:h[n]?=some o):(h.set m p)[n]?=some o:=by
 rw [List.getElem?_set_ne ne];exact e
theorem bF {h:H} {n:Nat} {o:O} (e:h[n]?=some o):n < h.length:=(List.getElem?_eq_some_iff.1 e).1
section
variable {P:PT} {cf:V->List V->PM V} {h h':H} {n m:Nat} {s xs ys:List V} {k:Int} {c:Nat} {v:V}
theorem g_L (g:h[n]?=some (.list s)):bv h n=some s:=by unfold bv;rw [g];rfl
theorem g_D {es:List (Key×V)} (g:h[n]?=some (.dict es)):getD h n=some es:=by unfold getD;rw [g];rfl
theorem g_I {c:Addr} {fs:List (Nat×V)} (g:h[n]?=some (.inst c fs)):rZ h n=some (c,fs):=by unfold rZ;rw [g];rfl
theorem Db {s:List Nat} (e:aC s k=some c):getItem (.str s) (.int k) h=.ok (.str [c]) h:=bH (by show (aC s k).map _=_;rw [e];rfl)
theorem yA (e:aC s k=some v):getItem (.tup s) (.int k) h=.ok v h:=bH e
theorem Ae (g:h[n]?=some (.list s)) (e:aC s k=some v):getItem (.ref n) (.int k) h=.ok v h:=bH (by show h[n]?.bind _=_;rw [g];exact e)
theorem zj (e:h[n]?=some (.list s)) (hi:0<=k/\k.toNat < s.length/\small k=true):setItem (.ref n) (.int k) v h=.ok () (h.set n (.list (s.set k.toNat v))):=
 aK (o:=h[n]?) e (aK (ce (by rw [decide_eq_true ⟨hi.1,hi.2.1⟩,hi.2.2];rfl)) rfl)
theorem Ai {c:Addr} {fs:List (Nat×V)} {x:Nat} (e:h[n]?=some (.inst c fs)) (hc:lP P c x=true) (hf:fs.lookup x=some v) (hb:Bi v=false):getAttr P (.ref n) x h=.ok v h:=
 aK (o:=rZ h n) (g_I e) (aK hf (iH (by rw [hc,hb];rfl)))
theorem nv {c:Addr} {fs:List (Nat×V)} {x:Nat} (e:h[n]?=some (.inst c fs)) (hc:lP P c x=true):setAttr P (.ref n) x v h=.ok () (h.set n (.inst c (b4 x v fs))):=aK (o:=rZ h n) (g_I e) (iH hc)
theorem zv {o p:O}:(h++[o]).set h.length p=h++[p]:=by simp
theorem CG {c:Addr} {fs fs':List (Nat×V)} {x:Nat} (hc:lP P c x=true) (hf:b4 x v fs=fs'):setAttr P (.ref h.length) x v (h++[.inst c fs])=.ok () (h++[.inst c fs']):=by
 rw [nv aN hc,zv,hf]
theorem uo {c:Addr} {ci:iK} {fs:List (Nat×V)} {x:Nat} {f:Addr} (e:h[n]?=some (.inst c fs)) (hc:P.cl.lookup c=some ci) (hm:ci.meths.lookup x=some f) (hf:fs.lookup x=none) (he:ci.exc=false):jt P (.ref n) x h=.ok (.own f) h:=bH (by
 show h[n]?.bind _=_
 rw [e]
 show (P.cl.lookup c).bind _=_
 rw [hc]
 show (ci.meths.lookup x).bind _=_
 rw [hm]
 exact ce (by rw [hf,he];rfl))
theorem Ad {s:List Nat} {x:Nat} (hx:4<=x/\x<=7):jt P (.str s) x h=.ok .str h:=bH (ce (decide_eq_true hx))
theorem Ab {x:Nat} (e:h[n]?=some (.list xs)) (hx:x<=2):jt P (.ref n) x h=.ok .list h:=bH (by show h[n]?.bind _=_;rw [e];exact ce (decide_eq_true hx))
theorem Ac {es:List (Key×V)} (e:h[n]?=some (.dict es)):jt P (.ref n) 3 h=.ok .dict h:=bH (by show h[n]?.bind _=_;rw [e];rfl)
theorem AT {s:List Nat} {x:Nat} {as:List V} {r:R V} (e:bK s x as h=r):fJ cf .str (.str s) x as h=r:=e
theorem DD (e:h[n]?=some (.list xs)) (hl:xs.length<=100000):fJ cf .list (.ref n) 0 [v] h=.ok .none (h.set n (.list (xs++[v]))):=aK (o:=bv h n) (g_L e) (iH (decide_eq_true hl))
theorem DC {es:List (Key×V)} {k d:V} {q:Key} (e:h[n]?=some (.dict es)) (hk:dy k es=some q):fJ cf .dict (.ref n) 3 [k,d] h=.ok ((es.lookup q).getD d) h:=aK (o:=getD h n) (g_D e) (aK hk rfl)
theorem nC {s:List Nat} {c:Nat} {ws:List (List Nat)} (e:dj s c=ws) (hs:0 < s.length/\s.length<=100000/\ws.length<=100000/\c < 128):bK s 4 [.str [c]] h=.ok (.ref h.length) (h++[.list (ws.map .str)]):=by
 subst e;exact iH (decide_eq_true hs)
theorem sK {s:List Nat} {ws:List (List Nat)} (e:h[n]?=some (.list xs)) (e2:bX xs=some ws) (hl:(ws.map fun w=>w.length+s.length).sum<=100000):bK s 5 [.ref n] h=.ok (.str (cF s ws)) h:=bH (by
 show (bv h n).bind _=_
 rw [g_L e]
 show (bX xs).bind _=_
 rw [e2];exact ce (decide_eq_true hl))
theorem vn {s:List Nat} {c:Nat} (e:(occ s c (s.length+1)).isEmpty=true):bK s 6 [.str [c],.str []] h=.ok (.str s) h:=bH (ce e)
theorem zR {s:List Nat} {c i:Nat} {r:List Nat} (e:occ s c 1=i::r):bK s 7 [.str [c]] h=.ok (.int i) h:=bH (by show (occ s c 1).head?.map _=_;rw [e];rfl)
noncomputable def oQ:V->Bool
 |.exc _=>false
 |_=>true
theorem sJ {m:R V} (e:m=.ok v h') (hv:oQ v=true):m.bd vV=.ok v h':=by
 rw [e];rcases v with _|_<;>first|rfl|injection hv
theorem u8 {m:R V} {c:Addr} (e:m=.exc c h'):m.bd vV=.exc c h':=by rw [e];rfl
variable {f:Addr} {o:V} {x:Nat} {as:List V} {c:Addr}
theorem DB (e:cf (.fn f) (o::as) h=.ok v h') (hv:oQ v=true):fJ cf (.own f) o x as h=.ok v h':=sJ e hv
theorem AU (e:cf (.fn f) (o::as) h=.exc c h'):fJ cf (.own f) o x as h=.exc c h':=u8 e
theorem Ge (e:cf (.fn f) as h=.ok v h') (hv:oQ v=true):bJ cf (.fn f) as h=.ok v h':=sJ e hv
theorem Dz (e:cf (.fn f) as h=.exc c h'):bJ cf (.fn f) as h=.exc c h':=u8 e
theorem DA (e:cf (.cls f) as h=.ok v h') (hv:oQ v=true):bJ cf (.cls f) as h=.ok v h':=sJ e hv
theorem Gd {r:R V} (e:cf (.fn f) as h=r):gH cf (.fn f) as h=r:=e
theorem Dy {r:R V} (e:cf (.cls f) as h=r):gH cf (.cls f) as h=r:=e
theorem AR {r:R V} (e:cf (.fn f) (o::as) h=r):fZ cf (.own f) o as h=r:=e
theorem eZ {α:Type} {m:R α} {a:α} (e:m=.ok a h'):noExc m=.ok a h':=by rw [e];rfl
theorem ub (e:lM v h=some n) (e2:n<=100000):oJ v h=some n:=by unfold oJ;rw [e];exact ce (decide_eq_true e2)
theorem yq (e:lM v h=some n) (e2:n<=100000):bJ cf (.bf .len) [v] h=.ok (.int n) h:=bH (by show (oJ v h).map _=_;rw [ub e e2];rfl)
theorem mB (g:h[n]?=some (.list s)):lM (.ref n) h=some s.length:=by show (bv h n).map _=_;rw [g_L g];rfl
theorem zS {s:List Nat} (e:s.length<=100000):bJ cf (.bf .len) [.str s] h=.ok (.int s.length) h:=yq rfl e
theorem x8 (g:h[n]?=some (.list s)) (e:s.length<=100000):bJ cf (.bf .len) [.ref n] h=.ok (.int s.length) h:=yq (mB g) e
theorem FC {a:Int}:bJ cf (.bf .abs) [.int a] h=.ok (.int a.natAbs) h:=rfl
theorem Fx {a b:Int}:bJ cf (.bf .min) [.int a,.int b] h=.ok (.int (min a b)) h:=rfl
theorem Fy {a b:Int}:bJ cf (.bf .max) [.int a,.int b] h=.ok (.int (max a b)) h:=rfl
theorem Fw {c:Nat}:bJ cf (.bf .ord) [.str [c]] h=.ok (.int c) h:=rfl
theorem FB {i:Int} (e:0<=i/\i < 128):bJ cf (.bf .chr) [.int i] h=.ok (.str [i.toNat]) h:=bH (ce (decide_eq_true e))
theorem Fz {s:List V}:bJ cf (.bf .isinst) [.tup s,.bt .tuple] h=.ok (.bool true) h:=rfl
theorem FA {s:List Nat}:bJ cf (.bf .isinst) [.str s,.bt .tuple] h=.ok (.bool false) h:=rfl
theorem wU {a:Int}:bJ cf (.bt .range) [.int a] h=.ok (.rng 0 a) h:=rfl
theorem wT {a b:Int}:bJ cf (.bt .range) [.int a,.int b] h=.ok (.rng a b) h:=rfl
theorem CL (g:h[n]?=some (.list s)) (e:s.length<=100000/\okT s=true):bJ cf (.bt .tuple) [.ref n] h=.ok (.tup s) h:=bH (by
 show (bv h n).bind _=_
 rw [g_L g];exact ce (by rw [decide_eq_true e.1,e.2];rfl))
theorem tZ (g:h[n]?=some (.list s)) (e:s.length<=100000):bJ cf (.bt .list) [.ref n] h=.ok (.ref h.length) (h++[.list s]):=aK (x:=s) (by
 show (bv h n).bind _=_
 rw [g_L g];exact ce (decide_eq_true e)) rfl
theorem zH {a b:Int} (e:(small a&&small b&&decide (b - a<=100000))=true):bJ cf (.bt .list) [.rng a b] h=.ok (.ref h.length) (h++[.list (av a b)]):=aK (x:=av a b) (ce e) rfl
theorem Ft {i:Int} {s:List Nat} (e:iJ i=some s):bJ cf (.bt .str) [.int i] h=.ok (.str s) h:=bH (by show (iJ i).map _=_;rw [e];rfl)
theorem Gp {x y:Int}:fK .Add (.int x) (.int y) h=.ok (.int (x+y)) h:=rfl
theorem Gj {x y:Int}:fK .Sub (.int x) (.int y) h=.ok (.int (x - y)) h:=rfl
theorem Gk {x y:Int} (e:(small x&&small y)=true):fK .Mult (.int x) (.int y) h=.ok (.int (x*y)) h:=aK (x:=x*y) (ce e) rfl
theorem Gn {x y:Int} (e:y≠0/\y.natAbs < 1000000000):fK .FloorDiv (.int x) (.int y) h=.ok (.int (Int.fdiv x y)) h:=aK (x:=Int.fdiv x y) (ce (by rw [bne_iff_ne.mpr e.1,decide_eq_true e.2];rfl)) rfl
theorem Gl {x y:Int} (e:y≠0):fK .Mod (.int x) (.int y) h=.ok (.int (Int.fmod x y)) h:=aK (x:=Int.fmod x y) (ce (bne_iff_ne.mpr e)) rfl
theorem Go {x y:List Nat} (e:x.length+y.length<=100000):fK .Add (.str x) (.str y) h=.ok (.str (x++y)) h:=iH (decide_eq_true e)
theorem Gi {x y:List V} (e:x.length+y.length<=100000/\okT (x++y)=true):fK .Add (.tup x) (.tup y) h=.ok (.tup (x++y)) h:=iH (by rw [decide_eq_true e.1,e.2];rfl)
theorem Gm {x y:List V} (g:h[m]?=some (.list x)) (g2:h[n]?=some (.list y)) (e:x.length+y.length<=100000):fK .Add (.ref m) (.ref n) h=.ok (.ref h.length) (h++[.list (x++y)]):=aK (o:=bv h m) (g_L g) (aK (o:=bv h n) (g_L g2) (iH (decide_eq_true e)))
theorem mY (e:xs.length<=100000):newList xs h=.ok (.ref h.length) (h++[.list xs]):=iH (decide_eq_true e)
theorem FI {ks:List (List Nat)} {vs:List V} (e:ks.length=vs.length/\ks.Nodup/\ks.length<=10):eN ks vs h=.ok (.ref h.length) (h++[.dict ((ks.map Key.s).zip vs)]):=iH (decide_eq_true e)
theorem Cv {s t:List Nat} {a b:V} (e:fU s a b=some t):dp (.str s) a b h=.ok (.str t) h:=aK e rfl
theorem zi {s t:List V} {a b:V} (g:h[n]?=some (.list s)) (e:fU s a b=some t):dp (.ref n) a b h=.ok (.ref h.length) (h++[.list t]):=aK (o:=bv h n) (g_L g) (aK e rfl)
theorem zT {α:Type} (s:List α):(s.length != 0)=!s.isEmpty:=by rcases s with _|_<;>rfl
theorem tC (g:h[n]?=some (.list s)) (hl:s.length<=100000):truthy (.ref n) h=some (!s.isEmpty):=by show (oJ (.ref n) h).map _=_;rw [ub (mB g) hl];exact congrArg some (zT s)
theorem C3 (g:h[n]?=some (.list s)) (g2:h[m]?=some (.list [])):kx (.ref n) (.ref m) h=some s.isEmpty:=by
 show (bv h n).bind _=_
 rw [g_L g]
 show (bv h m).bind _=_
 rw [g_L g2]
 rcases s with _|_<;>rfl
theorem Gh (g:h[n]?=some (.list s)) (g2:h[m]?=some (.list [])):aH .Eq (.ref n) (.ref m) h=some s.isEmpty:=C3 g g2
theorem C2 (g:h[n]?=some (.list s)) (g2:h[m]?=some (.list [])):aH .NotEq (.ref n) (.ref m) h=some (!s.isEmpty):=by
 show (kx _ _ _).map _=_
 rw [C3 g g2];rfl
theorem qO (ws:List (List Nat)):bX (ws.map V.str)=some ws:=by
 induction ws with
 |nil=>rfl
 |cons w ws ih=>show (bX (ws.map V.str)).map _=_;rw [ih];rfl
theorem Gg {a:List Nat} {ws:List (List Nat)} (g:h[n]?=some (.list (ws.map .str))):aH .In (.str a) (.ref n) h=some (ws.any fun b=>az a b):=by
 show h[n]?.bind _=_
 rw [g]
 show (bX _).map _=_
 rw [qO];rfl
theorem ug (g:h[n]?=some (.list s)):items (.ref n) h=some s:=by show h[n]?.bind _=_;rw [g];rfl
theorem xg (g:h[n]?=some (.list s)):isL (.ref n) h=true:=by show (bv h n).isSome=_;rw [g_L g];rfl
theorem zO {i:Nat} {all:List V} (g:h[n]?=some (.list s)):b5 true (.ref n) all i h=some s[i]?:=by show (bv h n).map _=_;rw [g_L g];rfl
theorem yl {n i:Nat} {xs ys all:List V} {h1 h2:H} {v:Option V} (g1:h1[n]?=some (.list xs)) (g2:h2[n]?=some (.list ys)) (e:ys[i]?=v):b5 (isL (.ref n) h1) (.ref n) all i h2=some v:=by
 rw [xg g1,zO g2,e]
end
theorem bU {i:Int} (h:-1000000000<=i/\i<=1000000000):small i=true:=by unfold small;rw [decide_eq_true (by omega),decide_eq_true (by omega)];rfl
theorem sy {x y:Int} (hx:-1000000000<=x/\x<=1000000000) (hy:-1000000000<=y/\y<=1000000000):(small x&&small y)=true:=by rw [bU hx,bU hy];rfl
theorem cw {α:Type} {l:List α} {i:Nat} {a:α} (h:i<=1000000000) (e:l[i]?=some a):aC l (i:Int)=some a:=by
 unfold aC
 rw [if_neg (by rw [bU (by omega)];simp),if_pos (by omega)]
 exact e
theorem oY {α:Type} {l:List α} {lo hi:V} {a b:Nat} (e1:fu l.length 0 lo=some a) (e2:fu l.length l.length hi=some b) (hl:l.length<=100000):fU l lo hi=some ((l.take b).drop a):=by
 unfold fU
 rw [e1,e2]
 exact ce (decide_eq_true hl)
theorem jd {n i:Nat}:bo n (i:Int)=min i n:=by unfold bo;rw [if_neg (by omega)];rfl
theorem GJ {α:Type} {a:α} {h:H}:R.ok a h=.ok a h:=rfl
theorem qg {P:PT} {cf:V->List V->PM V} {elt it c:PE} {x:Nat} {ρ:Loc} {w:List Nat} {g:Nat->Option V} {h h1:H} (hi:ev P cf it ρ h=.ok (.str w) h1)
  (he:∀ch∈w,fx P cf elt x c ρ (.str [ch]) h1=.ok (g ch) h1) (hl:w.length<=1000):ev P cf (.comp elt x it c) ρ h=.ok (.ref h1.length) (h1++[.list (w.filterMap g)]):=by
 obtain ⟨h',e,rfl⟩:=xE (nx:=b5 (isL (.str w) h1) (.str w) (w.map fun c=>.str [c])) (el:=fx P cf elt x c ρ) (xs:=w.map fun c=>.str [c])
  (g:=fun v=>(v.str?.bind one).bind g) (I:=(·=h1)) (by rintro i h rfl;rfl) (by
   rintro v hv h rfl
   obtain ⟨ch,hc,rfl⟩:=List.mem_map.1 hv
   exact ⟨_,he ch hc,rfl⟩) 99999 0 [] h1 (by rw [on];omega) rfl
 have hys:(w.map fun c=>V.str [c]).filterMap (fun v=>(v.str?.bind one).bind g)=w.filterMap g:=List.filterMap_map ..
 rw [List.drop_zero,hys,List.nil_append] at e
 exact jQ hi rfl (eZ e) (mY (HN (List.length_filterMap_le g w) (by omega)))
theorem sX {m q:R V} {v:V} {h:H} (e:m=q) (e2:∃g,q=.ok v (h++g)):∃g,m=.ok v (h++g):=e▸e2
inductive HG (t:Loc->PM Bool) (b:Loc->PM (Fl×Loc)) (J:Nat->Loc->H->Prop) (Q:R (Fl×Loc)->Prop) (m:Nat) (ρ:Loc) (h:H):Prop where
 |stop (h1:H) (e:t ρ h=.ok false h1) (q:Q (.ok (.next,ρ) h1))
 |ret (h1:H) (v:V) (ρ':Loc) (h2:H) (e:t ρ h=.ok true h1) (e2:b ρ h1=.ok (.ret v,ρ') h2) (q:Q (.ok (.ret v,ρ') h2))
 |exc (h1:H) (c:Addr) (h2:H) (e:t ρ h=.ok true h1) (e2:b ρ h1=.exc c h2) (q:Q (.exc c h2))
 |next (h1:H) (ρ':Loc) (h2:H) (m':Nat) (e:t ρ h=.ok true h1) (e2:b ρ h1=.ok (.next,ρ') h2) (hm:m' < m) (j:J m' ρ' h2)
 |cont (h1:H) (ρ':Loc) (h2:H) (m':Nat) (e:t ρ h=.ok true h1) (e2:b ρ h1=.ok (.cont,ρ') h2) (hm:m' < m) (j:J m' ρ' h2)
theorem eP {t:Loc->PM Bool} {b:Loc->PM (Fl×Loc)} {J:Nat->Loc->H->Prop} {Q:R (Fl×Loc)->Prop}
  (step:∀m ρ h,J m ρ h->HG t b J Q m ρ h):∀N m ρ h,m < N->J m ρ h->∃r,cZ t b N ρ h=r/\Q r:=by
 intro N
 induction N with
 |zero=>intro m ρ h hm;omega
 |succ N ih=>
  intro m ρ h hm j
  rcases step m ρ h j with ⟨h1,e,q⟩|⟨h1,v,ρ',h2,e,e2,q⟩|⟨h1,c,h2,e,e2,q⟩|⟨h1,ρ',h2,m',e,e2,hm',j'⟩|⟨h1,ρ',h2,m',e,e2,hm',j'⟩
  ·exact ⟨_,eY e rfl,q⟩
  ·exact ⟨_,eY e (jy e2 pd),q⟩
  ·exact ⟨_,eY e (jy e2 ph),q⟩
  ·obtain ⟨r,er,q⟩:=ih m' ρ' h2 (by omega) j'
   exact ⟨r,eY e (jy e2 (nS er)),q⟩
  ·obtain ⟨r,er,q⟩:=ih m' ρ' h2 (by omega) j'
   exact ⟨r,eY e (jy e2 (uN er)),q⟩
inductive Gu (nx:Nat->H->Option (Option V)) (st:V->Loc->Option Loc) (b:Loc->PM (Fl×Loc)) (J:Nat->Loc->H->Prop) (Q:R (Fl×Loc)->Prop) (L i:Nat) (ρ:Loc) (h:H):Prop where
 |stop (e:nx i h=some none) (q:Q (.ok (.next,ρ) h))
 |ret (v w:V) (ρ₁ ρ':Loc) (h2:H) (e:nx i h=some (some w)) (es:st w ρ=some ρ₁) (e2:b ρ₁ h=.ok (.ret v,ρ') h2) (q:Q (.ok (.ret v,ρ') h2))
 |exc (c:Addr) (w:V) (ρ₁:Loc) (h2:H) (e:nx i h=some (some w)) (es:st w ρ=some ρ₁) (e2:b ρ₁ h=.exc c h2) (q:Q (.exc c h2))
 |next (w:V) (ρ₁ ρ':Loc) (h2:H) (e:nx i h=some (some w)) (es:st w ρ=some ρ₁) (e2:b ρ₁ h=.ok (.next,ρ') h2) (hl:i < L) (j:J (i+1) ρ' h2)
theorem ut {nx:Nat->H->Option (Option V)} {st:V->Loc->Option Loc} {b:Loc->PM (Fl×Loc)} {J:Nat->Loc->H->Prop} {Q:R (Fl×Loc)->Prop} {L:Nat}
  (step:∀i ρ h,J i ρ h->Gu nx st b J Q L i ρ h):∀N i ρ h,L < N+i->J i ρ h->∃r,fH nx st b (N+1) i ρ h=r/\Q r:=by
 intro N
 induction N with
 |zero=>
  intro i ρ h hm j
  rcases step i ρ h j with ⟨e,q⟩|⟨v,w,ρ₁,ρ',h2,e,es,e2,q⟩|⟨c,w,ρ₁,h2,e,es,e2,q⟩|⟨w,ρ₁,ρ',h2,e,es,e2,hl,j'⟩
  ·exact ⟨_,nJ e,q⟩
  ·exact ⟨_,fg e es (jy e2 pd),q⟩
  ·exact ⟨_,fg e es (jy e2 ph),q⟩
  ·omega
 |succ N ih=>
  intro i ρ h hm j
  rcases step i ρ h j with ⟨e,q⟩|⟨v,w,ρ₁,ρ',h2,e,es,e2,q⟩|⟨c,w,ρ₁,h2,e,es,e2,q⟩|⟨w,ρ₁,ρ',h2,e,es,e2,hl,j'⟩
  ·exact ⟨_,nJ e,q⟩
  ·exact ⟨_,fg e es (jy e2 pd),q⟩
  ·exact ⟨_,fg e es (jy e2 ph),q⟩
  ·obtain ⟨r,er,q⟩:=ih (i+1) ρ' h2 (by omega) j'
   exact ⟨r,fg e es (jy e2 (nS er)),q⟩
theorem ve {b b':Bool} {ρ:Loc} {h:H} (e:b=b'):(R.ok (Fl.ret (.bool b),ρ) h).bd qp=.ok (.bool b') h:=e▸rfl
theorem FD {q:Bool} (e:q=false):(!q)=true:=e▸rfl
theorem FF {q:Bool} (e:q=true):(!q)=false:=e▸rfl
theorem BU {a b:Int} (h:a=b):(a==b)=true:=by simpa using h
theorem BV {a b:Int} (h:¬a=b):(a==b)=false:=by simpa using h
theorem zg {o:Option Bool} {q p:Bool} (e:o=some q) (e2:q=p):o=some p:=e2▸e
theorem bZ {k:Nat} {v:V} {ρ:Loc}:List.lookup k ((k,v)::ρ)=some v:=by rw [so,beq_self_eq_true]
theorem dC {k k':Nat} {v v':V} {ρ:Loc} (ne:(k==k')=false) (e:List.lookup k ρ=some v):List.lookup k ((k',v')::ρ)=some v:=by rw [so,ne];exact e
theorem A6 {α:Type} {o:Option α} {x:α} (e:o=some x):o=some x:=e
theorem D3 {q b:Bool} (e:(!q)=b):(!q)=b:=e
theorem Cl {P:PT} {cf:V->List V->PM V} {a:PE} {ρ:Loc} {h h1:H} {q b:Bool} (e1:evT P cf a ρ h=.ok q h1) (e2:(!q)=b):evT P cf (.not a) ρ h=.ok b h1:=e2▸BD e1
theorem D2 {vs:List V} (e:okT vs=true):okT vs=true:=e
theorem xz {P:PT} {cf:V->List V->PM V} {o e:PE} {x:Nat} {ρ:Loc} {h h1 h2:H} {v:V} {m:Mth} {c:Addr} (e1:ev P cf o ρ h=.ok v h1) (e2:jt P v x h1=.ok m h1) (e3:ev P cf e ρ h1=.exc c h2):ev P cf (.meth o x [e]) ρ h=.exc c h2:=aD e1 (aD e2 (eD (eD e3 rfl) rfl))
theorem wm {P:PT} {cf:V->List V->PM V} {lim:Nat} {g:V} {e:PE} {es:List PE} {ρ:Loc} {h h1:H} {c:Addr} (e1:ev P cf e ρ h=.exc c h1):ex P cf lim (.retX (.stat g) (e::es)) ρ h=.exc c h1:=eD (m:=evs P cf (e::es) ρ h) (eD e1 rfl) rfl
end
section
structure HI (t c:Nat) (k:Int) (len:Nat) (h:H):Prop where
 tape:h[t]?=some (.list [.ref c,.int k])
 cells:∃xs:List Int,h[c]?=some (.list (xs.map .int))/\xs.length=len
 ne:t≠c
 pos:0 < len/\len<=60
 k:0<=k/\k < 1000000
theorem uJ {h:H} {t c len n:Nat} {k l:Int} {xs:List Int} (ht:h[t]?=some (.list [.ref c,.int k])) (hc:h[c]?=some (.list (xs.map .int))) (ne:t≠c) (hl:0 < l/\l<=14) (hx:0 < xs.length/\xs.length<=60) (hk:0<=k/\k < 1000000):
  ∃(r:Int) (ys:List Int),a9 PT0 1000 (n+1) (.fn 793) [.ref t,.int l] h=.ok (.int r) ((h.set t (.list [.ref c,.int (k+1)])).set c (.list (ys.map .int)))/\0<=r/\r < l/\ys.length=xs.length:=by
 have hi:∃i:Nat,Int.fmod k (xs.map V.int).length=(i:Int)/\i < xs.length:=by
  rw [on]
  exact Al hx.1
 obtain ⟨i,hi,hil⟩:=hi
 have hi9:i<=1000000000:=HN (Nat.le_of_lt hil) (HN hx.2 (by decide))
 have hlen:(xs.map V.int).length<=100000:=by rw [on];exact HN hx.2 (by decide)
 have hle:((xs.map V.int).length:Int)≠0:=by rw [on];exact Int.ne_of_gt (Int.natCast_pos.2 hx.1)
 have e1:aC (xs.map V.int) (Int.fmod k (xs.map V.int).length)=some (.int xs[i]):=by
  rw [hi];exact cw hi9 (by simp [hil])
 have e2:0<=Int.fmod k (xs.map V.int).length/\(Int.fmod k (xs.map V.int).length).toNat < (xs.map V.int).length/\small (Int.fmod k (xs.map V.int).length)=true:=by
  rw [hi];exact ⟨Int.natCast_nonneg i,by rw [on,Int.toNat_natCast];exact hil,bU ⟨HP (by decide) (Int.natCast_nonneg i),Int.ofNat_le.2 hi9⟩⟩
 have hl0:l≠0:=Int.ne_of_gt hl.1
 refine ⟨Int.fmod xs[i] l,xs.set i (if (xs[i].natAbs:Int) > l then Int.fdiv xs[i] l else xs[i]*31+7*(k+1)),?_,Int.fmod_nonneg_of_pos _ hl.1,Int.fmod_lt_of_pos _ hl.1,by simp⟩
 have fin:∀z:Int,(xs.set i z).map V.int=(xs.map V.int).set i (.int z):=by intro z;rw [List.map_set]
 rw [fin]
 have hc':(h.set t (.list [.ref c,.int (k+1)]))[c]?=some (.list (xs.map .int)):=bR ne hc
 have ht':(h.set t (.list [.ref c,.int (k+1)]))[t]?=some (.list [.ref c,.int (k+1)]):=dF ht
 refine af rfl rfl ?_
 dsimp only [Eo]
 by_cases hb:(xs[i].natAbs:Int) > l
 ·have hd:=Gq hl
  rw [if_pos hb]
  exact HY
  simp only [hi];rfl
 ·have m1:(small xs[i]&&small 31)=true:=sy (DP hb hl.2) (by decide)
  have m2:(small 7&&small (k+1))=true:=sy (by decide) ⟨HP (by decide) (Int.add_nonneg hk.1 (by decide)),HP (Int.add_le_add (Int.le_of_lt hk.2) (Int.le_refl 1)) (by decide)⟩
  rw [if_neg hb]
  exact HY
  simp only [hi];rfl
end
section
noncomputable def cap (c:Nat):Nat:=if fG [97] [c]&&fG [c] [122] then c - 32 else c
noncomputable abbrev WS:List Nat:=[65,66,67,68,69,70,71,72,73,74,75,76,77,78,79,80,81,82,83,84,85,86,87,88,89,90,48,49,50,51,52,53,54,55,56,57,45]
noncomputable abbrev FG:List Nat:=[48,49,50,51,52,53,54,55,56,57]
noncomputable abbrev LT:List Nat:=[65,66,67,68,69,70,71,72,73,74,75,76,77,78,79,80,81,82,83,84,85,86,87,88,89,90]
theorem fQ {α:Type} {T t:List α} {i:Nat} {c:α} (hd:T.drop i=c::t):i < T.length:=by
 by_cases h:i < T.length
 ·exact h
 ·rw [HR (by omega)] at hd;injection hd
theorem xA {α:Type} {T t:List α} {i:Nat} {c:α} (hd:T.drop i=c::t):T[i]?=some c:=by
 have h:=fQ hd
 rw [List.drop_eq_getElem_cons h] at hd
 rw [HJ h];injection hd with h1 _;rw [h1]
theorem mH {α:Type} {T t:List α} {i:Nat} {c:α} (hd:T.drop i=c::t):T.drop (i+1)=t:=by
 rw [<-List.drop_drop,hd];rfl
theorem eO {α:Type} {T t:List α} {i:Nat} {c:α} (hd:T.drop i=c::t) (hl:T.length<=1000):aC T (i:Int)=some c:=
 cw (by have:=fQ hd;omega) (xA hd)
theorem lU {α:Type} {T t:List α} {i k:Nat} {a b:Int} (hd:T.drop i=t) (hi:i<=T.length) (ha:a=(i:Int)) (hb:b=((i+k:Nat):Int)) (hl:T.length<=100000:=by omega):fU T (.int a) (.int b)=some (t.take k):=by
 subst ha hb hd
 have c:∀k:Nat,bo T.length (k:Int)=min k T.length:=fun k=>by
  unfold bo
  rw [if_neg (by omega)];rfl
 show ((some (bo T.length (i:Int))).bind fun a=>(some (bo T.length ((i+k:Nat):Int))).bind fun b=>ifO (decide (T.length<=100000)) (some ((T.take b).drop a)))=_
 rw [c,c,Nat.min_eq_left hi]
 refine (ce (decide_eq_true hl)).trans ?_
 congr 1
 rw [List.take_drop,List.drop_take]
 by_cases hk:i+k<=T.length
 ·rw [Nat.min_eq_left hk,Nat.add_sub_cancel_left,List.take_drop]
 ·rw [Nat.min_eq_right (by omega),List.take_of_length_le (by simp),List.take_of_length_le (by omega)]
theorem iP {n c:Nat} {h:H}:a9 PT0 1000 (n+1) (.fn 635) [.str [c]] h=.ok (.str [cap c]) h:=by
 refine af rfl rfl ?_
 dsimp only [EC]
 by_cases h1:fG [97] [c]=true
 ·by_cases h2:fG [c] [122]=true
  ·have hc:97<=c/\c<=122:=by
    simp [fG] at h1 h2;omega
   have e1:cap c=((c:Int) - 32).toNat:=by unfold cap;rw [h1,h2];exact (Int.toNat_sub c 32).symm
   have e2:bJ (a9 PT0 1000 n) (.bf .chr) [.int ((c:Int) - 32)] h=.ok (.str [((c:Int) - 32).toNat]) h:=FB ⟨Int.sub_nonneg_of_le (Int.ofNat_le.2 (HN (by decide) hc.1)),Int.lt_of_le_of_lt (Int.sub_le_self _ (by decide)) (Int.ofNat_lt.2 (Nat.lt_of_le_of_lt hc.2 (by decide)))⟩
   rw [e1]
   exact HY
  ·have h2':fG [c] [122]=false:=by simpa using h2
   have e1:cap c=c:=by unfold cap;rw [h1,h2'];simp
   rw [e1]
   exact HY
 ·have h1':fG [97] [c]=false:=by simpa using h1
  have e1:cap c=c:=by unfold cap;rw [h1'];simp
  rw [e1]
  exact HY
abbrev EZ (S t:List Nat):Prop:=t=[]\/∃c r,t=c::r/\subIn [cap c] S=false
theorem iB {α:Type} {T w t:List α} {i:Nat} (hi:i<=T.length) (hd:T.drop i=w++t):i+w.length<=T.length/\T.drop (i+w.length)=t:=by
 have:=congrArg List.length hd
 simp at this
 refine ⟨by omega,?_⟩
 rw [<-List.drop_drop,hd,List.drop_left]
theorem gZ {n:Nat} {T S:List Nat} {h:H} (hl:T.length < 1000) (w:List Nat) (i:Nat) (t:List Nat) (hi:i<=T.length) (hd:T.drop i=w++t) (hw:∀c∈w,subIn [cap c] S=true) (ht:EZ S t):
  a9 PT0 1000 (n+2) (.fn 668) [.str T,.int i,.str S] h=.ok (.int ((i+w.length:Nat):Int)) h:=by
 have hT:T.length<=100000:=by omega
 refine af rfl rfl ?_
 dsimp only [Ez]
 let J:Nat->Loc->H->Prop:=fun m ρ h'=>h'=h/\ρ.lookup 84=some (.str T)/\ρ.lookup 108=some (.str S)/\∃(j:Nat) (u:List Nat),ρ.lookup 11=some (.int (j:Int))/\T.drop j=u++t/\j<=T.length/\j+u.length=i+w.length/\u.length=m/\(∀c∈u,subIn [cap c] S=true)
 let Q:R (Fl×Loc)->Prop:=fun r=>∃ρ',r=.ok (.next,ρ') h/\ρ'.lookup 11=some (.int ((i+w.length:Nat):Int))
 obtain ⟨r,er,ρ',rfl,r11⟩:=eP (J:=J) (Q:=Q) (t:=evT PT0 (a9 PT0 1000 (n+1)) iU)
  (b:=exs PT0 (a9 PT0 1000 (n+1)) 1000 nN) (by
   rintro m ρ h' ⟨rfl,r84,r108,j,u,r11,du,hj,hju,hm,hu⟩
   cases u with
   |cons c u=>
    have hlt:=fQ (show T.drop j=c::(u++t) from du)
    have ia:=eO (show T.drop j=c::(u++t) from du) (by omega)
    have ec:=iP (n:=n) (c:=c) (h:=h')
    have hc:=hu c (by simp)
    have hlt':(j:Int) < (T.length:Int):=by omega
    refine .next h' ((11,.int ((j:Int)+1))::ρ) h' u.length ?_ ?_ (by simp at hm;omega) ⟨rfl,r84,r108,j+1,u,rfl,mH du,by omega,by simp at hju;omega,rfl,fun c hc=>hu c (by simp [hc])⟩
    ·delta iU;exact HY
    ·delta nN;exact HY
   |nil=>
    refine .stop h' ?_ ⟨ρ,rfl,by simp at hju;rw [<-hju];exact r11⟩
    rcases ht with rfl|⟨c,r,rfl,hc⟩
    ·have hlt:¬(j:Int) < (T.length:Int):=by
      have:=congrArg List.length du
      simp at this;omega
     delta iU;exact HY
    ·have hlt:=fQ du
     have ia:=eO du (by omega)
     have ec:=iP (n:=n) (c:=c) (h:=h')
     have hlt':(j:Int) < (T.length:Int):=by omega
     delta iU;exact HY) 1000 w.length [(84,.str T),(11,.int (i:Int)),(108,.str S)] h (Nat.lt_of_le_of_lt (HN (Nat.le_add_left _ _) (iB hi hd).1) hl) ⟨rfl,rfl,rfl,i,w,rfl,hd,hi,rfl,rfl,hw⟩
 exact HY
theorem gB {n:Nat} {T:List Nat} {h:H} (hl:T.length < 1000) (w:List Nat) (i:Nat) (t:List Nat) (hi:i<=T.length) (hd:T.drop i=w++t) (hw:∀c∈w,subIn [cap c] FG=true) (ht:EZ FG t) (hp:az (t.take 1) [46]=false):
  a9 PT0 1000 (n+3) (.fn 675) [.str T,.int i] h=.ok (.int ((i+w.length:Nat):Int)) h:=by
 have hT:T.length<=100000:=by omega
 have e1:=gZ (n:=n) (h:=h) hl w i t hi hd hw ht
 have hz:=iB hi hd
 have e2:fU T (.int ((i+w.length:Nat):Int)) (.int (((i+w.length:Nat):Int)+1))=some (t.take 1):=lU hz.2 hz.1 rfl rfl
 refine af rfl rfl ?_
 dsimp only [Ey]
 exact HY
theorem mM {n c:Nat} {h:H}:a9 PT0 1000 (n+2) (.fn 647) [.str [c]] h=.ok (.bool (subIn [cap c] WS)) h:=by
 have e1:=iP (n:=n) (c:=c) (h:=h)
 refine af rfl rfl ?_
 dsimp only [EA]
 exact HY
theorem oA {n:Nat} {w:List Nat} {h:H} (hl:w.length<=1000):a9 PT0 1000 (n+2) (.fn 640) [.str w] h=.ok (.str (w.map cap)) (h++[.list ((w.map cap).map fun c=>.str [c])]):=by
 refine af rfl rfl ?_
 dsimp only [EB]
 have ec:=qg (P:=PT0) (cf:=a9 PT0 1000 (n+1)) (elt:=.call (.stat (.fn 635)) [.loc 22]) (it:=.loc 84) (c:=.bool true) (x:=22) (ρ:=[(84,.str w)]) (w:=w) (g:=fun c=>some (.str [cap c])) (h:=h) (h1:=h) (by exact HY) (by
  intro ch hc
  have e1:=iP (n:=n) (c:=ch) (h:=h)
  exact HY) hl
 have hm:w.filterMap (fun c=>some (V.str [cap c]))=(w.map cap).map fun c=>.str [c]:=by
  rw [List.filterMap_eq_map',List.map_map];rfl
 rw [hm] at ec
 have hs:bX ((w.map cap).map fun c=>.str [c])=some ((w.map cap).map fun c=>[c]):=by
  generalize w.map cap=u
  induction u with
  |nil=>rfl
  |cons c u ih=>rw [List.map_cons,List.map_cons,bX,ih];rfl
 have hj:cF [] ((w.map cap).map fun c=>[c])=w.map cap:=by
  generalize w.map cap=u
  induction u with
  |nil=>rfl
  |cons c u ih=>
   rcases u with _|⟨d,u⟩
   ·rfl
   ·show [c]++[]++cF [] (((d::u)).map fun c=>[c])=_
    rw [ih];rfl
 have hq:((((w.map cap).map fun c=>[c]).map fun w=>w.length+([]:List Nat).length)).sum<=100000:=by
  rw [List.map_map]
  have:(w.map cap).map ((fun w=>w.length+([]:List Nat).length) ∘ fun c:Nat=>[c])=List.replicate w.length 1:=by
   rw [List.map_map]
   exact List.map_const' ..
  rw [this];simp;omega
 have hm:=sK (s:=[]) (h:=h++[.list ((w.map cap).map fun c=>.str [c])]) aN hs hq
 rw [hj] at hm
 exact HY
def bnd (t:List Nat):Prop:=t=[]\/∃c r,t=c::r/\c∈[32,40,41,43,58]
theorem gx:∀c∈[32,40,41,43,58],subIn [cap c] WS=false/\subIn [cap c] FG=false/\az [c] [46]=false/\subIn [c] [34,39]=false:=by decide
theorem gC {n lr pl e:Nat} {T t:List Nat} {h:H} (hL:h[lr]?=some (.inst 352 [(84,.str T),(86,.ref pl)])) (hl:T.length < 1000) (hd:T.drop e=t) (he:e<=T.length) (ht:bnd t):
  a9 PT0 1000 (n+3) (.fn 722) [.ref lr,.int e] h=.ok .none h:=by
 have hT:T.length<=100000:=by omega
 have e2:fU T (.int (e:Int)) (.int ((e:Int)+2))=some (t.take 2):=lU hd he rfl rfl
 refine af rfl rfl ?_
 dsimp only [Eu]
 rcases ht with rfl|⟨c,r,rfl,hc⟩
 ·exact HY
 ·have f1:=(gx c hc).1
  have f2:=(gx c hc).2.2.1
  have f3:=(gx c hc).2.2.2
  have e1:=mM (n:=n) (c:=c) (h:=h)
  have e3:az ((c::r).take 2) []=false:=rfl
  exact HY
end
section
structure tf (w:List Nat):Prop where
 ws:∀c∈w,subIn [cap c] WS=true
 hd:∃c r,w=c::r/\subIn [cap c] LT=true/\subIn [cap c] FG=false/\az (w.take 1) [46]=false
 some_:((w.map cap).filterMap fun c=>if subIn [c] LT then some (V.str [c]) else none).isEmpty=false
 last:∃z,aC (w.map cap) (-1)=some z/\az [z] [45]=false
 len:w.length<=30
 pic:az (w.map cap) [80,73,67]=false/\az (w.map cap) [80,73,67,84,85,82,69]=false
theorem jq {n lr pl i:Nat} {T w t:List Nat} {h:H} (hL:h[lr]?=some (.inst 352 [(84,.str T),(86,.ref pl)])) (hl:T.length < 1000) (hd:T.drop i=w++t) (hi:i<=T.length) (hw:tf w):
  ∃g,a9 PT0 1000 (n+3) (.fn 694) [.ref lr,.int i,.int ((i+w.length:Nat):Int)] h=.ok (.str (w.map cap)) (h++g):=by
 have hT:T.length<=100000:=by omega
 have hlen:=hw.len
 have e1:fU T (.int (i:Int)) (.int ((i+w.length:Nat):Int))=some w:=by
  rw [lU hd hi rfl rfl,List.take_left]
 have e2:=oA (n:=n) (w:=w) (h:=h) (by omega)
 obtain ⟨z,hz,hz2⟩:=hw.last
 have hs:=hw.some_
 have hw30:¬((w.map cap).length:Int) > 30:=by simp;omega
 have hw5:(w.map cap).length<=100000:=by simp;omega
 apply sX
 ·apply af rfl rfl
  delta Ew
  have ec:=qg (P:=PT0) (cf:=a9 PT0 1000 (n+2)) (elt:=.loc 22) (it:=.loc 74) (c:=.cmp (.loc 22) .In (.stat (.str LT))) (x:=22)
   (ρ:=[(74,.str (w.map cap)),(51,.ref lr),(11,.int i),(109,.int ((i+w.length:Nat):Int))]) (w:=w.map cap) (g:=fun c=>if subIn [c] LT then some (V.str [c]) else none)
   (h:=h++[.list ((w.map cap).map fun c=>.str [c])]) (h1:=h++[.list ((w.map cap).map fun c=>.str [c])]) (by exact HY) (by
    intro ch hc
    by_cases hq:subIn [ch] LT=true
    ·rw [if_pos hq];exact HY
    ·have hq:subIn [ch] LT=false:=by simpa using hq
     rw [if_neg (by rw [hq];simp)];exact HY) (by simp;omega)
  exact HY
 ·simp only [HT];exact ⟨_,rfl⟩
theorem hZ {n lr pl i:Nat} {T w t:List Nat} {h:H} (hL:h[lr]?=some (.inst 352 [(84,.str T),(86,.ref pl)])) (hl:T.length < 1000) (hd:T.drop i=w++t) (hi:i<=T.length) (hw:w.length<=10) (ho:(occ w 46 (w.length+1)).isEmpty=true):
  a9 PT0 1000 (n+1) (.fn 701) [.ref lr,.int i,.int ((i+w.length:Nat):Int)] h=.ok (.str w) h:=by
 have hT:T.length<=100000:=by omega
 have e1:fU T (.int (i:Int)) (.int ((i+w.length:Nat):Int))=some w:=by
  rw [lU hd hi rfl rfl,List.take_left]
 have hw5:w.length<=100000:=by omega
 refine af rfl rfl ?_
 dsimp only [Ev]
 exact HY
theorem mq:∀c∈[40,41,43,58],cap c=c/\subIn [c] LT=false/\subIn [c] FG=false/\az [c] [46]=false/\subIn [c] [34,39]=false/\subIn [c] [40,41,58,43,45,42,47,61,60,62]=true/\c≠61/\c≠42/\c≠60/\c≠62:=by decide
theorem uZ:dj [42,42,32,60,61,32,62,61] 32=[[42,42],[60,61],[62,61]]:=by decide +kernel
theorem rc {n lr pl i c:Nat} {T r:List Nat} {h:H} (hL:h[lr]?=some (.inst 352 [(84,.str T),(86,.ref pl)])) (hl:T.length < 1000) (hd:T.drop i=c::r) (hc:c∈[40,41,43,58]):
  ∃g,a9 PT0 1000 (n+1) (.fn 729) [.ref lr,.int i] h=.ok (.tup [.str [115,105,103,110],.str [c]]) (h++g):=by
 have hT:T.length<=100000:=by omega
 have hi:=fQ hd
 have e1:fU T (.int (i:Int)) (.int ((i:Int)+2))=some (c::r.take 1):=lU hd (by omega) rfl rfl
 have ia:=eO hd (by omega)
 obtain ⟨-,-,-,-,-,f1,n1,n2,n3,n4⟩:=mq c hc
 have f2:az (c::r.take 1) [61,61]=false:=by simp [az,n1]
 have f3:([[42,42],[60,61],[62,61]].any fun b=>az (c::r.take 1) b)=false:=by simp [az,n2,n3,n4]
 have sd:=uZ
 apply sX
 ·apply af rfl rfl
  delta Et
  exact HY
 ·exact ⟨_,rfl⟩
noncomputable abbrev kW:List Nat:=[119,111,114,100]
noncomputable abbrev kN:List Nat:=[110,117,109,98,101,114]
noncomputable abbrev kS:List Nat:=[115,105,103,110]
inductive yP:List Nat->List Nat->List Nat->Prop
 |word (w:List Nat) (h:tf w):yP w kW (w.map cap)
 |num (d:Nat) (h:d∈[48,49,50,51,52,53,54,55,56,57]):yP [d] kN [d]
 |sign (c:Nat) (h:c∈[40,41,43,58]):yP [c] kS [c]
theorem vj:∀d∈[48,49,50,51,52,53,54,55,56,57],cap d=d/\subIn [d] LT=false/\subIn [d] FG=true/\subIn [d] WS=true:=by decide
theorem vi:∀d∈[48,49,50,51,52,53,54,55,56,57],(occ [d] 46 ([d].length+1)).isEmpty=true:=by decide +kernel
theorem nR {S t:List Nat} (hb:bnd t) (hS:∀c∈[32,40,41,43,58],subIn [cap c] S=false):EZ S t:=by
 rcases hb with rfl|⟨c,r,rfl,hc⟩
 ·exact .inl rfl
 ·exact .inr ⟨c,r,rfl,hS c hc⟩
theorem nV {n lr pl i:Nat} {T s k w t:List Nat} {h:H} (hL:h[lr]?=some (.inst 352 [(84,.str T),(86,.ref pl)])) (hl:T.length < 1000) (hd:T.drop i=s++t) (hi:i<=T.length) (hs:yP s k w) (hb:k=kS\/bnd t):
  ∃g,a9 PT0 1000 (n+4) (.fn 736) [.ref lr,.int i] h=.ok (.tup [.str k,.str w,.int ((i+s.length:Nat):Int)]) (h++g):=by
 have hT:T.length<=100000:=by omega
 have hz:=iB hi hd
 cases hs with
 |word w hw=>
  have hb:bnd t:=hb.resolve_left (by decide)
  obtain ⟨c,r,hwc,l1,l2,l3⟩:=hw.hd
  have hd':T.drop i=c::(r++t):=by rw [hd,hwc];rfl
  have ia:=eO hd' (by omega)
  have e1:=iP (n:=n+2) (c:=c) (h:=h)
  have e2:=gZ (n:=n+1) (S:=WS) (h:=h) hl s i t hi hd hw.ws (nR hb (by decide))
  have e3:=gB (n:=n) (h:=h) hl [] i (s++t) hi hd (by simp) (.inr ⟨c,r++t,by rw [hwc];rfl,l2⟩) (by rw [hwc] at l3 ⊢;exact l3)
  have e4:=gC (n:=n) hL hl hz.2 hz.1 hb
  obtain ⟨g,e5⟩:=jq (n:=n) hL hl hd hi hw
  refine ⟨g,af rfl rfl ?_⟩
  delta Bn
  exact HY
 |num d hdg=>
  have hb:bnd t:=hb.resolve_left (by decide)
  obtain ⟨c1,l1,l2,l3⟩:=vj d hdg
  have hd':T.drop i=d::t:=hd
  have ia:=eO hd' (by omega)
  have e1:=iP (n:=n+2) (c:=d) (h:=h)
  rw [c1] at e1
  have e2:=gZ (n:=n+1) (S:=WS) (h:=h) hl [d] i t hi hd (by intro c hc;rw [List.mem_singleton.1 hc,c1];exact l3) (nR hb (by decide))
  have hp:az (t.take 1) [46]=false:=by
   rcases hb with rfl|⟨c,r,rfl,hc⟩
   ·rfl
   ·exact (gx c hc).2.2.1
  have e3:=gB (n:=n) (h:=h) hl [d] i t hi hd (by intro c hc;rw [List.mem_singleton.1 hc,c1];exact l2) (nR hb (by decide)) hp
  have e4:=gC (n:=n) hL hl hz.2 hz.1 hb
  have e5:=hZ (n:=n+2) hL hl hd hi (by simp) (vi d hdg)
  refine ⟨[],af rfl rfl ?_⟩
  rw [th]
  delta Bn
  exact HY
 |sign c hc=>
  obtain ⟨c1,l1,l2,l3,l4,-⟩:=mq c hc
  have hd':T.drop i=c::t:=hd
  have ia:=eO hd' (by omega)
  have e1:=iP (n:=n+2) (c:=c) (h:=h)
  rw [c1] at e1
  obtain ⟨g,e5⟩:=rc (n:=n+2) hL hl hd' hc
  refine ⟨g,af rfl rfl ?_⟩
  delta Bn
  exact HY
  rfl
theorem wv {n:Nat} {k w p b:V} {h:H}:a9 PT0 1000 (n+2) (.cls 624) [k,w,p,b] h=.ok (.ref h.length) (h++[.inst 624 [(102,k),(74,w),(11,p),(107,b)]]):=by
 refine l6 rfl rfl (af rfl rfl ?_)
 delta ED
 exact HY
 rfl
end
section
def Gr (x:Nat) (h h':H):Prop:=∀j o,j≠x->h[j]?=some o->h'[j]?=some o
theorem Gr.refl {x:Nat} {h:H}:Gr x h h:=fun Z Z Z e=>e
theorem Gr.trans {x:Nat} {h h1 h2:H} (a:Gr x h h1) (b:Gr x h1 h2):Gr x h h2:=fun j o ne e=>b j o ne (a j o ne e)
theorem Gr.app {x:Nat} {h g:H}:Gr x h (h++g):=fun Z Z Z e=>ax e
theorem Gr.set {x:Nat} {h:H} {o:O}:Gr x h (h.set x o):=fun Z Z ne e=>bR (Ne.symm ne) e
theorem Gr.setNew {x n:Nat} {h h1:H} {o:O} (a:Gr x h h1) (hn:h.length<=n):Gr x h (h1.set n o):=fun j p ne e=>bR (by have:=bF e;omega) (a j p ne e)
inductive Lx:List Nat->List (List Nat×List Nat)->Prop
 |nil:Lx [] []
 |blank {t:List Nat} {ks:List (List Nat×List Nat)} (h:Lx t ks):Lx (32::t) ks
 |tok {s k w t:List Nat} {ks:List (List Nat×List Nat)} (hs:yP s k w) (hb:k=kS\/bnd t) (h:Lx t ks):Lx (s++t) ((k,w)::ks)
def lW (k w:List Nat) (o:O):Prop:=∃(p:Int) (q:Bool),o=.inst 624 [(102,.str k),(74,.str w),(11,.tup [.int 1,.int p]),(107,.bool q)]
def oO (x:Nat) (ks:List (List Nat×List Nat)) (ts:List V) (h:H):Prop:=ts.length=ks.length/\∀(j:Nat) (kw:List Nat×List Nat),ks[j]?=some kw->∃a o,ts[j]?=some (V.ref a)/\a≠x/\h[a]?=some o/\lW kw.1 kw.2 o
theorem oO.keep {x:Nat} {ks:List (List Nat×List Nat)} {ts:List V} {h h':H} (a:oO x ks ts h) (g:Gr x h h'):oO x ks ts h':=
 ⟨a.1,fun j kw e=>by obtain ⟨b,o,e1,ne,e2,e3⟩:=a.2 j kw e;exact ⟨b,o,e1,ne,g b o ne e2,e3⟩⟩
theorem oO.nil {x:Nat} {h:H}:oO x [] [] h:=⟨rfl,fun j kw e=>by simp at e⟩
theorem oO.snoc {x a:Nat} {ks:List (List Nat×List Nat)} {ts:List V} {h:H} {k w:List Nat} {o:O} (t:oO x ks ts h) (ne:a≠x) (e:h[a]?=some o) (ho:lW k w o):oO x (ks++[(k,w)]) (ts++[.ref a]) h:=by
 refine ⟨by simp [t.1],fun j kw ej=>?_⟩
 by_cases hj:j < ks.length
 ·rw [HK hj] at ej
  obtain ⟨b,o',e1,ne,e2,e3⟩:=t.2 j kw ej
  exact ⟨b,o',by rw [HK (by rw [t.1];exact hj)];exact e1,ne,e2,e3⟩
 ·have hj':j=ks.length:=by
   have:=(List.getElem?_eq_some_iff.1 ej).1
   simp at this;omega
  subst hj'
  simp at ej
  subst ej
  exact ⟨a,o,by rw [<-t.1];simp,ne,e,ho⟩
theorem vO {n i:Nat} {T t:List Nat} {h:H} (hl:T.length < 1000) (hd:T.drop i=32::t):a9 PT0 1000 (n+1) (.fn 743) [.str T,.int i] h=.ok (.bool true) h:=by
 have ia:=eO hd (by omega)
 refine af rfl rfl ?_
 delta DZ
 exact HY
theorem xL {n i c:Nat} {T t:List Nat} {h:H} (hl:T.length < 1000) (hd:T.drop i=c::t) (h1:az [c] [32]=false) (h2:subIn [c] [44,59]=false):a9 PT0 1000 (n+1) (.fn 743) [.str T,.int i] h=.ok (.bool false) h:=by
 have ia:=eO hd (by omega)
 refine af rfl rfl ?_
 delta DZ
 exact HY
theorem og {n x tl:Nat} {ks:List (List Nat×List Nat)} {ts:List V} {h:H} (ht:h[tl]?=some (.list ts)) (hl:ts.length<=1000) (tk:oO x ks ts h)
  (hp:∀kw∈ks,az kw.2 [80,73,67]=false/\az kw.2 [80,73,67,84,85,82,69]=false):a9 PT0 1000 (n+1) (.fn 750) [.ref tl] h=.ok (.bool false) h:=by
 have hl':ts.length<=100000:=by omega
 refine af rfl rfl ?_
 delta Es
 by_cases h0:ks=[]
 ·subst h0
  have:ts=[]:=List.length_eq_zero_iff.1 tk.1
  subst this
  exact HY
 ·have hk:0 < ks.length:=List.length_pos_iff.2 h0
  obtain ⟨a,o,e1,-,e2,p,q,rfl⟩:=tk.2 (ks.length - 1) ks[ks.length - 1] (HJ (Nat.sub_lt hk Nat.one_pos))
  have hp':=hp ks[ks.length - 1] (List.getElem_mem (Nat.sub_lt hk Nat.one_pos))
  generalize ks[ks.length - 1]=kw at*
  have hpos:(ts.length:Int) > 0:=by rw [tk.1];exact Int.natCast_pos.2 hk
  have hi:aC ts (-1)=some (.ref a):=by
   unfold aC
   rw [if_neg (by decide),if_neg (by decide),if_pos (by rw [tk.1];exact (ue hk).1),tk.1,(ue hk).2]
   exact e1
  have hc:aH .In (.str kw.2) (.tup [.str [80,73,67],.str [80,73,67,84,85,82,69]]) h=some false:=by
   show some (az kw.2 [80,73,67]||(az kw.2 [80,73,67,84,85,82,69]||false))=_
   rw [hp'.1,hp'.2];rfl
  by_cases hw:az kw.1 kW=true
  ·exact HY
  ·have hw:az kw.1 kW=false:=by simpa using hw
   exact HY
def tj (N:Nat) (ps:List V):Prop:=∀j,j < N->aC ps (j:Int)=some (.tup [.int 1,.int (8+(j:Int))])
theorem qG {s k w:List Nat} (hs:yP s k w):∃c r,s=c::r/\az [c] [32]=false/\subIn [c] [44,59]=false:=by
 cases hs with
 |word w hw=>
  obtain ⟨c,r,hwc,l1,l2,l3⟩:=hw.hd
  refine ⟨c,r,hwc,?_,?_⟩
  ·by_cases hc:c=32
   ·subst hc;exact absurd l1 (by decide)
   ·simp [az,hc]
  ·by_cases hc:c=44
   ·subst hc;exact absurd l1 (by decide)
   ·by_cases hc':c=59
    ·subst hc';exact absurd l1 (by decide)
    ·simp [subIn,n5,hc,hc']
 |num d hd=>exact ⟨d,[],rfl,by revert d;decide,by revert d;decide⟩
 |sign c hc=>exact ⟨c,[],rfl,by revert c;decide,by revert c;decide⟩
theorem ww {s k w:List Nat} (hs:yP s k w):az w [80,73,67]=false/\az w [80,73,67,84,85,82,69]=false:=by
 cases hs with
 |word w hw=>exact hw.pic
 |num d hd=>exact ⟨by simp [az],by simp [az]⟩
 |sign c hc=>exact ⟨by simp [az],by simp [az]⟩
theorem lA {n lr pl tl:Nat} {T:List Nat} {ps:List V} {all:List (List Nat×List Nat)} {h:H} (hl:T.length<=900) (hL:h[lr]?=some (.inst 352 [(84,.str T),(86,.ref pl)])) (hP:h[pl]?=some (.list ps)) (hps:tj T.length ps) (ne2:pl≠tl)
  (ht:h[tl]?=some (.list [])) (hx:Lx T all):∃h' ts,a9 PT0 1000 (n+5) (.fn 757) [.ref tl,.ref lr] h=.ok .none h'/\h'[tl]?=some (.list ts)/\oO tl all ts h'/\Gr tl h h':=by
 have ne1:lr≠tl:=by rintro rfl;rw [hL] at ht;cases ht
 let J:Nat->Loc->H->Prop:=fun m ρ h'=>ρ.lookup 100=some (.ref tl)/\ρ.lookup 51=some (.ref lr)/\ρ.lookup 112=some (.bool false)/\Gr tl h h'/\
  ∃(j:Nat) (t:List Nat) (ks done:List (List Nat×List Nat)) (ts:List V),ρ.lookup 11=some (.int (j:Int))/\T.drop j=t/\j<=T.length/\Lx t ks/\t.length=m/\done++ks=all/\done.length<=j/\h'[tl]?=some (.list ts)/\oO tl done ts h'/\
   (∀kw∈done,az kw.2 [80,73,67]=false/\az kw.2 [80,73,67,84,85,82,69]=false)
 let Q:R (Fl×Loc)->Prop:=fun r=>∃ρ' h' ts,r=.ok (.next,ρ') h'/\h'[tl]?=some (.list ts)/\oO tl all ts h'/\Gr tl h h'
 obtain ⟨r,er,ρ',h',ts,rfl,q1,q2,q3⟩:=eP (J:=J) (Q:=Q) (t:=evT PT0 (a9 PT0 1000 (n+4)) iT) (b:=exs PT0 (a9 PT0 1000 (n+4)) 1000 kH) (by
  rintro m ρ h' ⟨r100,r51,r112,hG,j,t,ks,done,ts,r11,hd,hj,hx',hm,hall,hdj,hts,tk,hpic⟩
  have hT:T.length<=100000:=by omega
  have hL':=hG lr _ ne1 hL
  have hP':=hG pl _ ne2 hP
  cases hx' with
  |nil=>
   have hlt:¬(j:Int) < (T.length:Int):=by
    have:=congrArg List.length hd
    simp at this;omega
   rw [th] at hall
   subst hall
   exact .stop h' (by delta iT;exact HY) ⟨ρ,h',ts,rfl,hts,tk,hG⟩
  |@blank t ks hx'=>
   have hlt:=fQ hd
   have hlt':(j:Int) < (T.length:Int):=by omega
   have e1:=vO (n:=n+3) (h:=h') (by omega) hd
   refine .cont h' ((11,.int ((j:Int)+1))::ρ) h' t.length (by delta iT;exact HY) (by delta kH;exact HY) (by simp at hm;omega) ⟨r100,r51,r112,hG,j+1,t,ks,done,ts,rfl,mH hd,by omega,hx',rfl,hall,by omega,hts,tk,hpic⟩
  |@tok s k w t ks hs hb hx'=>
   obtain ⟨c,r,hc,c1,c2⟩:=qG hs
   have hd2:T.drop j=c::(r++t):=by rw [hd,hc];rfl
   have hlt:=fQ hd2
   have hlt':(j:Int) < (T.length:Int):=by omega
   have hz:=iB hj hd
   have hs1:1<=s.length:=by rw [hc];simp
   have e1:=xL (n:=n+3) (h:=h') (by omega) hd2 c1 c2
   have hps':=hps j hlt
   have hl1:ts.length<=1000:=by rw [tk.1];omega
   have hl2:ts.length<=100000:=by omega
   have e2:=og (n:=n+3) hts hl1 tk hpic
   obtain ⟨g,e3⟩:=nV (n:=n) hL' (by omega) hd hj hs hb
   have e4:=wv (n:=n+2) (k:=.str k) (w:=.str w) (p:=.tup [.int 1,.int (8+(j:Int))]) (b:=.bool (decide (8+(j:Int)<=11))) (h:=h'++g)
   have hb8:(8:Int)<=8+(j:Int):=by omega
   have hnew:((h'++g)++[O.inst 624 [(102,.str k),(74,.str w),(11,.tup [.int 1,.int (8+(j:Int))]),(107,.bool (decide (8+(j:Int)<=11)))]])[tl]?=some (.list ts):=ax (ax hts)
   have hne:(h'++g).length≠tl:=by have:=bF hts;simp;omega
   refine .next h' _ _ t.length (by delta iT;exact HY) (by delta kH;exact HY) (by simp at hm;omega) ⟨?_,?_,?_,?_,j+s.length,t,ks,done++[(k,w)],ts++[.ref (h'++g).length],?_,hz.2,hz.1,hx',rfl,by rw [<-hall];simp,by simp;omega,?_,?_,?_⟩
   ·exact I0
   ·exact I0
   ·exact I0
   ·exact hG.trans (Gr.app.trans (Gr.app.trans Gr.set))
   ·exact bZ
   ·exact dF hnew
   ·have tk':=(tk.keep (h':=h'++g) Gr.app).keep (h':=(h'++g)++[O.inst 624 [(102,.str k),(74,.str w),(11,.tup [.int 1,.int (8+(j:Int))]),(107,.bool (decide (8+(j:Int)<=11)))]]) Gr.app
    exact (tk'.snoc hne aN ⟨_,_,rfl⟩).keep Gr.set
   ·intro kw hkw
    rcases List.mem_append.1 hkw with hk|hk
    ·exact hpic kw hk
    ·rw [List.mem_singleton.1 hk];exact ww hs) 1000 T.length [(112,.bool false),(11,.int 0),(100,.ref tl),(51,.ref lr)] h (by omega) ⟨rfl,rfl,rfl,Gr.refl,0,T,all,[],[],rfl,rfl,by omega,hx,rfl,rfl,by simp,ht,oO.nil,by simp⟩
 refine ⟨h',ts,af rfl rfl ?_,q1,q2,q3⟩
 delta Er
 exact HY
end
section
theorem mN {n lr pl ll:Nat} {T:List Nat} {ps:List V} {all:List (List Nat×List Nat)} {h:H} (hl:T.length<=900) (hL:h[lr]?=some (.inst 352 [(84,.str T),(86,.ref pl)])) (hP:h[pl]?=some (.list ps)) (hps:tj T.length ps)
  (hll:h[ll]?=some (.list [.ref lr])) (hx:Lx T all):∃h' ts tl,a9 PT0 1000 (n+6) (.fn 771) [.ref ll] h=.ok (.ref tl) h'/\h'[tl]?=some (.list ts)/\oO tl all ts h'/\(∀x,Gr x h h'):=by
 obtain ⟨h',ts,e1,q1,q2,q3⟩:=lA (n:=n) (tl:=h.length) hl (ax (g:=[.list []]) hL) (ax hP) hps (by have:=bF hP;omega) aN hx
 have hl':=q3 ll _ (by have:=bF hll;omega) (ax hll)
 refine ⟨h',ts,h.length,af rfl rfl ?_,q1,q2,fun x j o ne e=>q3 j o (by have:=bF e;omega) (ax e)⟩
 delta Ep uw
 exact HY
noncomputable abbrev Tk:=List Nat×List Nat
noncomputable abbrev dJ (tl nd i:Nat):O:=.inst 594 [(100,.ref tl),(11,.int (i:Int)),(41,.ref nd)]
structure RS (r tl nd:Nat) (ks:List Tk) (ts:List V) (i:Nat) (h:H):Prop where
 rd:h[r]?=some (dJ tl nd i)
 ls:h[tl]?=some (.list ts)
 lt:tl < r
 len:ts.length=ks.length
 tk:∀(j:Nat) (kw:Tk),ks[j]?=some kw->∃a o,ts[j]?=some (V.ref a)/\a < r/\h[a]?=some o/\lW kw.1 kw.2 o
 sz:ks.length<=900
theorem RS.keep {r tl nd i:Nat} {ks:List Tk} {ts:List V} {h h':H} (S:RS r tl nd ks ts i h) (g:∀j o,j<=r->h[j]?=some o->h'[j]?=some o):RS r tl nd ks ts i h':=
 ⟨g _ _ (HM _) S.rd,g _ _ (Nat.le_of_lt S.lt) S.ls,S.lt,S.len,fun j kw e=>by obtain ⟨a,o,e1,e2,e3,e4⟩:=S.tk j kw e;exact ⟨a,o,e1,e2,g _ _ (Nat.le_of_lt e2) e3,e4⟩,S.sz⟩
theorem RS.app {r tl nd i:Nat} {ks:List Tk} {ts:List V} {h g:H} (S:RS r tl nd ks ts i h):RS r tl nd ks ts i (h++g):=S.keep fun Z Z Z e=>ax e
theorem RS.move {r tl nd i i':Nat} {ks:List Tk} {ts:List V} {h:H} (S:RS r tl nd ks ts i h):RS r tl nd ks ts i' (h.set r (dJ tl nd i')):=
 ⟨dF S.rd,bR (by have:=S.lt;omega) S.ls,S.lt,S.len,fun j kw e=>by obtain ⟨a,o,e1,e2,e3,e4⟩:=S.tk j kw e;exact ⟨a,o,e1,e2,bR (by omega) e3,e4⟩,S.sz⟩
theorem RS.setq {r tl nd i q:Nat} {ks:List Tk} {ts:List V} {h:H} {o:O} (S:RS r tl nd ks ts i h) (hq:r < q):RS r tl nd ks ts i (h.set q o):=S.keep fun Z Z Z e=>bR (by omega) e
noncomputable def bz (ks:List Tk) (i:Nat) (kd:List Nat):Bool:=match ks[i]? with
 |some kw=>az kw.1 kd
 |none=>false
noncomputable def bu (ks:List Tk) (i:Nat) (kd w:List Nat):Bool:=match ks[i]? with
 |some kw=>az kw.1 kd&&az kw.2 w
 |none=>false
noncomputable def dM (ks:List Tk) (i:Nat):Bool:=match ks[i]? with
 |some kw=>az kw.1 kW&&!subIn ((([32]:List Nat)++kw.2)++[32]) RES
 |none=>false
section
variable {r tl nd:Nat} {ks:List Tk} {ts:List V}
theorem RS.szt {i:Nat} {h:H} (S:RS r tl nd ks ts i h):ts.length<=100000:=by rw [S.len];have:=S.sz;omega
theorem de {n i a:Nat} {as:List V} {h:H} {kw:Tk} (S:RS r tl nd ks ts i h) (hb:aZ [9,58] as [.int 0]=some [(9,.ref r),(58,.int (a:Int))]) (e:ks[i+a]?=some kw):
  ∃ad o,a9 PT0 1000 (n+1) (.fn 448) as h=.ok (.ref ad) h/\ad < r/\h[ad]?=some o/\lW kw.1 kw.2 o:=by
 obtain ⟨ad,o,e1,lt,e2,e3⟩:=S.tk _ _ e
 refine ⟨ad,o,af rfl hb ?_,lt,e2,e3⟩
 have g1:=S.rd
 have g2:=S.ls
 have hz:=S.szt
 have hlt:((i:Int)+(a:Int)) < (ts.length:Int):=by have:=(List.getElem?_eq_some_iff.1 e1).1;omega
 have hi:aC ts ((i:Int)+(a:Int))=some (.ref ad):=by
  rw [<-Int.natCast_add]
  exact cw (by omega) e1
 delta E4
 exact HY
theorem mz {n i a:Nat} {as:List V} {h:H} (S:RS r tl nd ks ts i h) (hb:aZ [9,58] as [.int 0]=some [(9,.ref r),(58,.int (a:Int))]) (e:ks[i+a]?=none):
  a9 PT0 1000 (n+1) (.fn 448) as h=.ok .none h:=by
 refine af rfl hb ?_
 have g1:=S.rd
 have g2:=S.ls
 have hz:=S.szt
 have hlt:¬((i:Int)+(a:Int)) < (ts.length:Int):=by have:=List.getElem?_eq_none_iff.1 e;rw [S.len];omega
 delta E4
 exact HY
theorem cU {n i a:Nat} {as:List V} {h:H} {kd:List Nat} (S:RS r tl nd ks ts i h) (hb:aZ [9,102,58] as [.int 0]=some [(9,.ref r),(102,.str kd),(58,.int (a:Int))]):
  a9 PT0 1000 (n+2) (.fn 477) as h=.ok (.bool (bz ks (i+a) kd)) h:=by
 refine af rfl hb ?_
 have g1:=S.rd
 unfold bz
 delta EK
 rcases e:ks[i+a]? with _|kw
 ·have e1:=mz (n:=n) (as:=[.ref r,.int a]) S rfl e
  exact HY
 ·obtain ⟨ad,o,e1,-,e2,p,q,rfl⟩:=de (n:=n) (as:=[.ref r,.int a]) S rfl e
  exact HY
theorem br {n i a:Nat} {as:List V} {h:H} {w:List Nat} (S:RS r tl nd ks ts i h) (hb:aZ [9,22,58] as [.int 0]=some [(9,.ref r),(22,.str w),(58,.int (a:Int))]):
  a9 PT0 1000 (n+3) (.fn 542) as h=.ok (.bool (bu ks (i+a) kS w)) h:=by
 refine af rfl hb ?_
 have g1:=S.rd
 have e0:=cU (n:=n) (kd:=kS) (as:=[.ref r,.str kS,.int a]) S rfl
 unfold bu
 delta EG
 rcases e:ks[i+a]? with _|kw
 ·have hk:bz ks (i+a) kS=false:=by unfold bz;rw [e]
  exact HY
 ·obtain ⟨ad,o,e1,-,e2,p,q,rfl⟩:=de (n:=n+1) (as:=[.ref r,.int a]) S rfl e
  have hk:bz ks (i+a) kS=az kw.1 kS:=by unfold bz;rw [e]
  by_cases hq:az kw.1 kS=true
  ·rw [hq] at hk
   dsimp only
   rw [hq,Bool.true_and]
   exact HY
  ·have hq:az kw.1 kS=false:=by simpa using hq
   rw [hq] at hk
   dsimp only
   rw [hq,Bool.false_and]
   exact HY
theorem oa {n:Nat} {w:List Nat} {h:H} (hw:w.length<=100):a9 PT0 1000 (n+1) (.fn 420) [.str w] h=.ok (.bool (subIn ((([32]:List Nat)++w)++[32]) RES)) h:=by
 have l1:([32]:List Nat).length+w.length<=100000:=by simp;omega
 have l2:(([32]:List Nat)++w).length+([32]:List Nat).length<=100000:=by simp;omega
 refine af rfl rfl ?_
 delta EP
 exact HY
theorem kf {n i a:Nat} {as:List V} {h:H} (S:RS r tl nd ks ts i h) (hs:∀kw∈ks,kw.2.length<=100) (hb:aZ [9,58] as [.int 0]=some [(9,.ref r),(58,.int (a:Int))]):
  a9 PT0 1000 (n+3) (.fn 520) as h=.ok (.bool (dM ks (i+a))) h:=by
 refine af rfl hb ?_
 have g1:=S.rd
 have e0:=cU (n:=n) (kd:=kW) (as:=[.ref r,.str kW,.int a]) S rfl
 unfold dM
 delta EH
 rcases e:ks[i+a]? with _|kw
 ·have hk:bz ks (i+a) kW=false:=by unfold bz;rw [e]
  exact HY
 ·obtain ⟨ad,o,e1,-,e2,p,q,rfl⟩:=de (n:=n+1) (as:=[.ref r,.int a]) S rfl e
  have hk:bz ks (i+a) kW=az kw.1 kW:=by unfold bz;rw [e]
  have e3:=oa (n:=n+1) (h:=h) (hs kw (we e))
  by_cases hq:az kw.1 kW=true
  ·rw [hq] at hk
   dsimp only
   rw [hq,Bool.true_and]
   exact HY
  ·have hq:az kw.1 kW=false:=by simpa using hq
   rw [hq] at hk
   dsimp only
   rw [hq,Bool.false_and]
   exact HY
theorem qc {n i:Nat} {w:List Nat} {h:H} (S:RS r tl nd ks ts i h) (h0:0 < ks.length):a9 PT0 1000 (n+2) (.fn 462) [.ref r,.str w] h=.ok (.exc 72) h:=by
 have g1:=S.rd
 have g2:=S.ls
 have hz:=S.szt
 have hl:=S.len
 have ht:(!(!ts.isEmpty))=false:=by
  rcases ts with _|_
  ·rw [List.length_nil] at hl;omega
  ·rfl
 obtain ⟨j,hj,hjl⟩:∃j:Nat,min (i:Int) ((ts.length:Int) - 1)=(j:Int)/\j < ks.length:=by rw [hl];exact CN h0
 obtain ⟨ad,o,e1,-,e2,p,q,rfl⟩:=S.tk j _ (HJ hjl)
 have ia:aC ts (min (i:Int) ((ts.length:Int) - 1))=some (.ref ad):=by
  rw [hj];exact cw (by have:=S.sz;omega) e1
 have ex:=l5 (P:=PT0) (lim:=1000) (n:=n) (c:=72) (as:=[.str w,.tup [.int 1,.int p]]) (h:=h) rfl rfl rfl
 refine af rfl rfl ?_
 delta EM
 exact HY
theorem tD {n i:Nat} {h:H} {kw:Tk} (S:RS r tl nd ks ts i h) (e:ks[i]?=some kw):
  ∃ad o,a9 PT0 1000 (n+2) (.fn 469) [.ref r] h=.ok (.ref ad) (h.set r (dJ tl nd (i+1)))/\(h.set r (dJ tl nd (i+1)))[ad]?=some o/\lW kw.1 kw.2 o:=by
 obtain ⟨ad,o,e1,lt,e2,e3⟩:=de (n:=n) (a:=0) (as:=[.ref r]) S rfl e
 have g1:=S.rd
 refine ⟨ad,o,af rfl rfl ?_,bR (by omega) e2,e3⟩
 delta EL
 exact HY
 rfl
theorem b9 {n i:Nat} {h:H} {w:List Nat} (S:RS r tl nd ks ts i h) (e:bu ks i kS w=false):a9 PT0 1000 (n+4) (.fn 549) [.ref r,.str w] h=.ok (.bool false) h:=by
 have g1:=S.rd
 have e1:=br (n:=n) (a:=0) (w:=w) (as:=[.ref r,.str w]) S rfl
 rw [show i+0=i from rfl,e] at e1
 refine af rfl rfl ?_
 delta E1
 exact HY
theorem cR {n i:Nat} {h:H} {w:List Nat} (S:RS r tl nd ks ts i h) (e:bu ks i kS w=true):a9 PT0 1000 (n+4) (.fn 549) [.ref r,.str w] h=.ok (.bool true) (h.set r (dJ tl nd (i+1))):=by
 have g1:=S.rd
 have e1:=br (n:=n) (a:=0) (w:=w) (as:=[.ref r,.str w]) S rfl
 rw [show i+0=i from rfl,e] at e1
 refine af rfl rfl ?_
 delta E1
 exact HY
 rfl
theorem ba {n i:Nat} {h:H} {w:List Nat} (S:RS r tl nd ks ts i h) (e:bu ks i kS w=true):a9 PT0 1000 (n+5) (.fn 556) [.ref r,.str w] h=.ok .none (h.set r (dJ tl nd (i+1))):=by
 have g1:=S.rd
 have e1:=cR (n:=n) S e
 refine af rfl rfl ?_
 delta E0
 exact HY
theorem mR {n i:Nat} {h:H} {w:List Nat} (S:RS r tl nd ks ts i h) (h0:0 < ks.length) (hw:w.length<=10) (e:bu ks i kS w=false):a9 PT0 1000 (n+5) (.fn 556) [.ref r,.str w] h=.exc 72 h:=by
 have g1:=S.rd
 have e1:=b9 (n:=n) S e
 have hl:w.length+[32,105,115,32,97,115,107,101,100,32,104,101,114,101].length<=100000:=by simp;omega
 have e2:=qc (n:=n+2) (w:=w++[32,105,115,32,97,115,107,101,100,32,104,101,114,101]) S h0
 refine af rfl rfl ?_
 delta E0
 exact HY
end
end
section
section
variable {r tl nd:Nat} {ks:List Tk} {ts:List V}
theorem la {n i:Nat} {h:H} {kw:Tk} (S:RS r tl nd ks ts i h) (hs:∀kw∈ks,kw.2.length<=100) (e:ks[i]?=some kw) (hn:dM ks i=true):a9 PT0 1000 (n+4) (.fn 527) [.ref r] h=.ok (.str kw.2) (h.set r (dJ tl nd (i+1))):=by
 have g1:=S.rd
 have e1:=kf (n:=n) (a:=0) (as:=[.ref r]) S hs rfl
 rw [show i+0=i from rfl,hn] at e1
 obtain ⟨ad,o,e2,e3,p,q,rfl⟩:=tD (n:=n+1) S e
 have g2:=S.move (i':=i+1) |>.rd
 refine af rfl rfl ?_
 delta E2
 exact HY
theorem zQ {n i:Nat} {h:H} (S:RS r tl nd ks ts i h) (h0:0 < ks.length) (hs:∀kw∈ks,kw.2.length<=100) (hn:dM ks i=false):a9 PT0 1000 (n+4) (.fn 527) [.ref r] h=.exc 72 h:=by
 have g1:=S.rd
 have e1:=kf (n:=n) (a:=0) (as:=[.ref r]) S hs rfl
 rw [show i+0=i from rfl,hn] at e1
 have e2:=qc (n:=n+1) (w:=[97,32,110,97,109,101,32,105,115,32,97,115,107,101,100,32,104,101,114,101]) S h0
 refine af rfl rfl ?_
 delta E2
 exact HY
theorem ke {n i:Nat} {h:H} {w:List Nat} (S:RS r tl nd ks ts i h) (hw:dj w 32=[w]) (hl:0 < w.length/\w.length<=100000):a9 PT0 1000 (n+3) (.fn 484) [.ref r,.str w] h=.ok (.bool (bu ks i kW w)) (h++[.list [.str w]]):=by
 have g1:=S.rd
 have S1:=S.app (g:=[.list [.str w]])
 have g2:=S1.rd
 have e0:=cU (n:=n) (kd:=kW) (a:=0) (as:=[.ref r,.str kW,.int 0]) S1 rfl
 rw [show i+0=i from rfl] at e0
 have e3:bK w 4 [.str [32]] h=.ok (.ref h.length) (h++[.list [.str w]]):=nC hw ⟨hl.1,hl.2,by simp,by decide⟩
 refine af rfl rfl ?_
 delta EJ ux
 unfold bu
 rcases e:ks[i]? with _|kw
 ·have hk:bz ks i kW=false:=by unfold bz;rw [e]
  exact HY
 ·obtain ⟨ad,o,e1,-,e2,p,q,rfl⟩:=de (n:=n+1) (a:=0) (as:=[.ref r,.int 0]) S1 rfl e
  have hk:bz ks i kW=az kw.1 kW:=by unfold bz;rw [e]
  by_cases hq:az kw.1 kW=true
  ·rw [hq] at hk
   dsimp only
   rw [hq,Bool.true_and]
   by_cases hq2:az kw.2 w=true
   ·have hn:aH .NotEq (.str kw.2) (.str w) (h++[.list [.str w]])=some false:=by show some (!az kw.2 w)=_;rw [hq2];rfl
    rw [hq2]
    exact HY
   ·have hq2:az kw.2 w=false:=by simpa using hq2
    have hn:aH .NotEq (.str kw.2) (.str w) (h++[.list [.str w]])=some true:=by show some (!az kw.2 w)=_;rw [hq2];rfl
    rw [hq2]
    exact HY
  ·have hq:az kw.1 kW=false:=by simpa using hq
   rw [hq] at hk
   dsimp only
   rw [hq,Bool.false_and]
   exact HY
theorem kC {n i:Nat} {h:H} {w:List Nat} (S:RS r tl nd ks ts i h) (hw:dj w 32=[w]) (hl:0 < w.length/\w.length<=100000) (hi:bu ks i kW w=false):a9 PT0 1000 (n+4) (.fn 491) [.ref r,.str w] h=.ok (.bool false) (h++[.list [.str w]]):=by
 have g1:=S.rd
 have e1:=ke (n:=n) S hw hl
 rw [hi] at e1
 refine af rfl rfl ?_
 delta E3
 exact HY
theorem pG {n i:Nat} {h:H} {w:List Nat} (S:RS r tl nd ks ts i h) (hw:dj w 32=[w]) (hl:0 < w.length/\w.length<=100000) (hi:bu ks i kW w=true):a9 PT0 1000 (n+4) (.fn 491) [.ref r,.str w] h=.ok (.bool true) ((h++[O.list [.str w]]++[O.list [.str w]]).set r (dJ tl nd (i+1))):=by
 have g1:=S.rd
 have S1:=S.app (g:=[.list [.str w]])
 have g2:=S1.rd
 have S2:=S1.app (g:=[.list [.str w]])
 have g3:=S2.rd
 have e1:=ke (n:=n) S hw hl
 rw [hi] at e1
 have e3:bK w 4 [.str [32]] (h++[O.list [.str w]])=.ok (.ref (h++[O.list [.str w]]:H).length) (h++[O.list [.str w]]++[O.list [.str w]]):=nC hw ⟨hl.1,hl.2,by simp,by decide⟩
 refine af rfl rfl ?_
 delta E3
 exact HY
 rfl
theorem dk:dj [79,70,32,73,78] 32=[[79,70],[73,78]]/\dj [79,70] 32=[[79,70]]/\dj [73,78] 32=[[73,78]]/\dj [65,76,76] 32=[[65,76,76]]:=by decide +kernel
theorem vh {n i:Nat} {h:H} (S:RS r tl nd ks ts i h) (h1:bu ks i kW [79,70]=false) (h2:bu ks i kW [73,78]=false):∃g,a9 PT0 1000 (n+5) (.fn 505) [.ref r,.str [79,70,32,73,78]] h=.ok (.str []) (h++g):=by
 have g1:=S.rd
 have sp:=dk.1
 have S1:=S.app (g:=[.list (([[79,70],[73,78]]:List (List Nat)).map V.str)])
 have g2:=S1.rd
 have e1:=kC (n:=n) S1 dk.2.1 (by decide) h1
 have S2:=S1.app (g:=[.list [.str [79,70]]])
 have g3:=S2.rd
 have e2:=kC (n:=n) S2 dk.2.2.1 (by decide) h2
 apply sX
 ·apply af rfl rfl
  delta Bo kI
  exact HY
 ·simp only [HT];exact ⟨_,rfl⟩
theorem r7 {n i:Nat} {h:H} (S:RS r tl nd ks ts i h) (h1:bu ks i kW [79,70]=true\/bu ks i kW [73,78]=true):
  ∃h' c w,a9 PT0 1000 (n+5) (.fn 505) [.ref r,.str [79,70,32,73,78]] h=.ok (.str (c::w)) h'/\RS r tl nd ks ts (i+1) h'/\Gr r h h':=by
 have g1:=S.rd
 have sp:=dk.1
 have S1:=S.app (g:=[.list (([[79,70],[73,78]]:List (List Nat)).map V.str)])
 have g2:=S1.rd
 by_cases hq:bu ks i kW [79,70]=true
 ·have e1:=pG (n:=n) S1 dk.2.1 (by decide) hq
  refine ⟨(h++[O.list (([[79,70],[73,78]]:List (List Nat)).map V.str)]++[O.list [.str [79,70]]]++[O.list [.str [79,70]]]).set r (dJ tl nd (i+1)),79,[70],af rfl rfl ?_,(S1.app.app).move,Gr.app.trans (Gr.app.trans (Gr.app.trans Gr.set))⟩
  delta Bo kI
  exact HY
 ·have hq:bu ks i kW [79,70]=false:=by simpa using hq
  have h2:=h1.resolve_left (by rw [hq];simp)
  have e1:=kC (n:=n) S1 dk.2.1 (by decide) hq
  have S2:=S1.app (g:=[.list [.str [79,70]]])
  have g3:=S2.rd
  have e2:=pG (n:=n) S2 dk.2.2.1 (by decide) h2
  refine ⟨(h++[O.list (([[79,70],[73,78]]:List (List Nat)).map V.str)]++[O.list [.str [79,70]]]++[O.list [.str [73,78]]]++[O.list [.str [73,78]]]).set r (dJ tl nd (i+1)),73,[78],af rfl rfl ?_,(S2.app.app).move,Gr.app.trans (Gr.app.trans (Gr.app.trans (Gr.app.trans Gr.set)))⟩
  delta Bo kI
  exact HY
end
end
section
noncomputable abbrev DG:List Nat:=[48,49,50,51,52,53,54,55,56,57]
noncomputable abbrev dv (d:Nat):Int:=((d - 48:Nat):Int)
theorem xB:∀d∈DG,az [d] [43]=false/\az [d] [45]=false/\subIn [46] [d]=false/\subIn [d] FG=true:=by decide
theorem Dw:∀d∈DG,occ FG d 1=[d - 48]:=by decide +kernel
theorem nU {n d:Nat} {h:H} (hd:d∈DG):a9 PT0 1000 (n+1) (.fn 406) [.str ([d]++[])] h=.ok (.int (dv d)) h:=by
 have ho:=Dw d hd
 have hm:bK FG 7 [.str [d]] h=.ok (.int (dv d)) h:=zR ho
 have hi:items (.str ([d]++[])) h=some [.str [d]]:=rfl
 have hz:dv d=0*10+dv d:=by omega
 rw [hz]
 refine af rfl rfl ?_
 delta ER uz
 exact HY
theorem rJ {n:Nat} {x:Int} {h:H}:a9 PT0 1000 (n+1) (.fn 371) [.int x,.int ((([]:List Nat).length:Nat):Int)] h=.ok (.tup [.int x,.int 0]) h:=by
 refine af rfl rfl ?_
 delta ES uA
 exact HY
 rfl
theorem jn {n d:Nat} {h:H} (hd:d∈DG):a9 PT0 1000 (n+2) (.fn 413) [.str [d]] h=.ok (.tup [.int (dv d),.int 0]) h:=by
 obtain ⟨f1,f2,f3,f4⟩:=xB d hd
 have e1:fU [d] .none (.int 1)=some [d]:=rfl
 have e2:fU [d] (.int 0) .none=some [d]:=rfl
 have e3:aH .In (.str [d]) (.tup [.str [43],.str [45]]) h=some false:=by
  show some (az [d] [43]||(az [d] [45]||false))=_
  rw [f1,f2];rfl
 have e4:items (.rng 0 ((([d]:List Nat).length:Nat):Int)) h=some [.int 0]:=by
  show ifO (small 0&&small 1&&decide ((1:Int) - 0<=100000)) (some (av 0 1))=_
  rw [bU (by omega),bU (by omega)];rfl
 have e5:aC [d] 0=some d:=rfl
 have e6:aH .NotIn (.str [d]) (.str FG) h=some false:=by
  show some (!subIn [d] FG)=_
  rw [f4];rfl
 have e7:=nU (n:=n) (h:=h) hd
 have e8:=rJ (n:=n) (x:=dv d) (h:=h)
 refine af rfl rfl ?_
 delta EQ uy
 exact HY
section
variable {r tl nd:Nat} {ks:List Tk} {ts:List V}
theorem uO {i:Nat} {kw:Tk} {kd:List Nat} (e:ks[i]?=some kw):bz ks i kd=az kw.1 kd:=by unfold bz;rw [e]
theorem gK {i:Nat} {kw:Tk} {kd w:List Nat} (e:ks[i]?=some kw):bu ks i kd w=(az kw.1 kd&&az kw.2 w):=by unfold bu;rw [e]
theorem i8 {i:Nat} {kd w:List Nat} (e:ks[i]?=none):bz ks i kd=false/\bu ks i kd w=false/\dM ks i=false:=by
 unfold bz bu dM;rw [e];exact ⟨rfl,rfl,rfl⟩
theorem eW {n i:Nat} {h:H} (S:RS r tl nd ks ts i h) (h1:bu ks i kS [43]=false) (h2:bu ks i kS [45]=false):a9 PT0 1000 (n+4) (.fn 563) [.ref r] h=.ok (.bool (bz ks i kN)) h:=by
 have g1:=S.rd
 have e1:=br (n:=n) (a:=0) (w:=[43]) (as:=[.ref r,.str [43]]) S rfl
 have e2:=br (n:=n) (a:=0) (w:=[45]) (as:=[.ref r,.str [45]]) S rfl
 have e3:=cU (n:=n+1) (a:=0) (kd:=kN) (as:=[.ref r,.str kN]) S rfl
 rw [show i+0=i from rfl] at e1 e2 e3
 rw [h1] at e1
 rw [h2] at e2
 refine af rfl rfl ?_
 delta EF
 exact HY
theorem v5 {n i d:Nat} {h:H} (S:RS r tl nd ks ts i h) (hd:d∈DG) (e:ks[i]?=some (kN,[d])):a9 PT0 1000 (n+5) (.fn 570) [.ref r] h=.ok (.tup [.int (dv d),.int 0]) (h.set r (dJ tl nd (i+1))):=by
 have g1:=S.rd
 have hk:bz ks i kN=true:=uO e
 have s1:bu ks i kS [43]=false:=gK e
 have s2:bu ks i kS [45]=false:=gK e
 have e1:=eW (n:=n) S s1 s2
 rw [hk] at e1
 have e2:=b9 (n:=n) S s1
 have e3:=b9 (n:=n) S s2
 obtain ⟨ad,o,e4,e5,p,q,rfl⟩:=tD (n:=n+2) S e
 have e6:=jn (n:=n+2) (h:=h.set r (dJ tl nd (i+1))) hd
 refine af rfl rfl ?_
 delta EE
 exact HY
theorem wP {n i d:Nat} {h:H} (S:RS r tl nd ks ts i h) (hd:d∈DG) (e:ks[i]?=some (kN,[d])):a9 PT0 1000 (n+6) (.fn 297) [.ref r,.fn 814] h=.ok (.tup [.str kN,.tup [.int (dv d),.int 0]]) (h.set r (dJ tl nd (i+1))):=by
 have g1:=S.rd
 have hk:bz ks i kN=true:=uO e
 have s1:bu ks i kS [43]=false:=gK e
 have s2:bu ks i kS [45]=false:=gK e
 have e1:=eW (n:=n+1) S s1 s2
 rw [hk] at e1
 have e2:=v5 (n:=n) S hd e
 refine af rfl rfl ?_
 delta E5
 exact HY
theorem zD {n i:Nat} {h:H} {f:V} (S:RS r tl nd ks ts i h) (h0:0 < ks.length) (hs:∀kw∈ks,kw.2.length<=100) (e:ks[i]?=none):a9 PT0 1000 (n+5) (.fn 276) [.ref r,f] h=.exc 72 h:=by
 have g1:=S.rd
 have e1:=zQ (n:=n) S h0 hs (i8 (kd:=[]) (w:=[]) e).2.2
 refine af rfl rfl ?_
 delta vW
 exact HY
theorem oq {n i:Nat} {h:H} (S:RS r tl nd ks ts i h) (e:bz ks i kW=false):a9 PT0 1000 (n+3) (.fn 290) [.ref r] h=.ok .none h:=by
 have g1:=S.rd
 have e3:=cU (n:=n) (a:=0) (kd:=kW) (as:=[.ref r,.str kW]) S rfl
 rw [show i+0=i from rfl,e] at e3
 refine af rfl rfl ?_
 delta EU
 exact HY
theorem wQ {n i:Nat} {h:H} (S:RS r tl nd ks ts i h) (h0:0 < ks.length) (hs:∀kw∈ks,kw.2.length<=100) (e:ks[i]?=none):∃h',a9 PT0 1000 (n+6) (.fn 297) [.ref r,.fn 814] h=.exc 72 h'/\∃g,h'=h++g:=by
 have g1:=S.rd
 have ae:∀kd w,bz ks i kd=false/\bu ks i kd w=false/\dM ks i=false:=fun kd w=>i8 e
 have e1:=eW (n:=n+1) S (ae _ _).2.1 (ae _ _).2.1
 rw [(ae kN []).1] at e1
 have e2:=cU (n:=n+3) (a:=0) (kd:=[108,105,116,101,114,97,108]) (as:=[.ref r,.str [108,105,116,101,114,97,108]]) S rfl
 rw [show i+0=i from rfl,(ae _ []).1] at e2
 have e3:=kC (n:=n+1) S dk.2.2.2 (by decide) (ae _ _).2.1
 have S1:=S.app (g:=[.list [.str [65,76,76]]])
 have e4:=oq (n:=n+2) S1 (ae kW []).1
 have e5:=zD (n:=n) (f:=.fn 814) S1 h0 hs e
 refine ⟨h++[.list [.str [65,76,76]]],af rfl rfl ?_,_,rfl⟩
 delta E5
 exact HY
end
end
section
inductive fL:Nat->V->Int->Prop
 |num (k:Nat) (x:Int):fL (k+1) (.tup [.str kN,.tup [.int x,.int 0]]) x
 |plus {k:Nat} {a b:V} {x y:Int} (ha:fL k a x) (hb:fL k b y):fL (k+1) (.tup [.str [43],a,b]) (x+y)
theorem fL.tup {k:Nat} {v:V} {x:Int} (e:fL k v x):∃a b,v=.tup (a::b):=by
 cases e with
 |num k x=>exact ⟨_,_,rfl⟩
 |plus ha hb=>exact ⟨_,_,rfl⟩
theorem eU {k:Nat} {v:V} {x:Int} (e:fL k v x):∀(n:Nat) (h:H),k<=n->a9 PT0 1000 n (.fn 828) [v] h=.ok (.int x) h:=by
 induction e with
 |num k x=>
  intro n h hn
  obtain ⟨m,rfl⟩:∃m,n=m+1:=exa (by omega)
  refine af rfl rfl ?_
  delta DY
  exact HY
 |plus ha hb iha ihb=>
  intro n h hn
  obtain ⟨m,rfl⟩:∃m,n=m+1:=exa (by omega)
  have e1:=iha m h (by omega)
  have e2:=ihb m h (by omega)
  refine af rfl rfl ?_
  delta DY
  exact HY
section
variable (r tl nd:Nat) (ks:List Tk) (ts:List V)
def Rd (f:Addr) (N k i i':Nat) (x:Int):Prop:=∀n,N<=n->∀h,RS r tl nd ks ts i h->∃h' v,a9 PT0 1000 n (.fn f) [.ref r] h=.ok v h'/\RS r tl nd ks ts i' h'/\Gr r h h'/\fL k v x
end
section
variable {r tl nd:Nat} {ks:List Tk} {ts:List V}
theorem gO {i d k:Nat} (hd:d∈DG) (e:ks[i]?=some (kN,[d])):Rd r tl nd ks ts 821 7 (k+1) i (i+1) (dv d):=by
 intro n hn h S
 obtain ⟨m,rfl⟩:∃m,n=m+7:=exa (by omega)
 have g1:=S.rd
 have e1:=b9 (n:=m+2) (w:=[40]) S (gK e)
 have e2:=wP (n:=m) S hd e
 refine ⟨_,_,af rfl rfl ?_,S.move,Gr.set,.num _ _⟩
 delta Bk
 exact HY
theorem zL {N i i1 k:Nat} {x:Int} (hN:7<=N) (e1:bu ks i kS [40]=true) (e2:Rd r tl nd ks ts 814 N k (i+1) i1 x) (e3:bu ks i1 kS [41]=true):Rd r tl nd ks ts 821 (N+1) k i (i1+1) x:=by
 intro n hn h S
 obtain ⟨m,rfl⟩:∃m,n=m+8:=exa (by omega)
 have g1:=S.rd
 have c1:=cR (n:=m+3) S e1
 obtain ⟨h2,v,c2,S2,G2,V2⟩:=e2 (m+7) (by omega) _ S.move
 have g2:=S2.rd
 have c3:=ba (n:=m+2) S2 e3
 obtain ⟨a,b,rfl⟩:=V2.tup
 refine ⟨_,_,af rfl rfl ?_,S2.move,Gr.trans Gr.set (G2.trans Gr.set),V2⟩
 delta Bk
 exact HY
theorem wO {N i i1 k:Nat} {x:Int} (hN:7<=N) (e1:Rd r tl nd ks ts 821 N k i i1 x) (e3:bu ks i1 kS [43]=false):Rd r tl nd ks ts 814 (N+1) k i i1 x:=by
 intro n hn h S
 obtain ⟨m,rfl⟩:∃m,n=m+8:=exa (by omega)
 have g1:=S.rd
 obtain ⟨h2,v,c2,S2,G2,V2⟩:=e1 (m+7) (by omega) _ S
 have g2:=S2.rd
 have c3:=b9 (n:=m+3) S2 e3
 obtain ⟨a,b,rfl⟩:=V2.tup
 refine ⟨_,_,af rfl rfl ?_,S2,G2,V2⟩
 delta Bm nM
 exact HY
theorem kY {N i i1 i2 k:Nat} {x y:Int} (hN:7<=N) (e1:Rd r tl nd ks ts 821 N k i i1 x) (e2:bu ks i1 kS [43]=true) (e3:Rd r tl nd ks ts 821 N k (i1+1) i2 y) (e4:bu ks i2 kS [43]=false):Rd r tl nd ks ts 814 (N+1) (k+1) i i2 (x+y):=by
 intro n hn h S
 obtain ⟨m,rfl⟩:∃m,n=m+8:=exa (by omega)
 have g1:=S.rd
 obtain ⟨h2,v,c2,S2,G2,V2⟩:=e1 (m+7) (by omega) _ S
 have g2:=S2.rd
 have c3:=cR (n:=m+3) S2 e2
 have S3:=S2.move (i':=i1+1)
 obtain ⟨h4,w,c4,S4,G4,V4⟩:=e3 (m+7) (by omega) _ S3
 have g3:=S4.rd
 have c5:=b9 (n:=m+3) S4 e4
 obtain ⟨a,b,rfl⟩:=V2.tup
 obtain ⟨a',b',rfl⟩:=V4.tup
 refine ⟨_,_,af rfl rfl ?_,S4,G2.trans (Gr.set.trans G4),.plus V2 V4⟩
 delta Bm nM uv
 exact HY
theorem u5 {i:Nat} (h0:0 < ks.length) (hs:∀kw∈ks,kw.2.length<=100) (e:ks[i]?=none):∀n h,RS r tl nd ks ts i h->∃h',a9 PT0 1000 (n+8) (.fn 814) [.ref r] h=.exc 72 h'/\Gr r h h':=by
 intro n h S
 have g1:=S.rd
 obtain ⟨h',c2,g,rfl⟩:=wQ (n:=n) S h0 hs e
 have c1:=b9 (n:=n+2) (w:=[40]) S (i8 (kd:=kS) (w:=[40]) e).2.1
 have c3:a9 PT0 1000 (n+7) (.fn 821) [.ref r] h=.exc 72 (h++g):=by
  refine af rfl rfl ?_
  delta Bk
  exact HY
 refine ⟨h++g,af rfl rfl ?_,Gr.app⟩
 delta Bm
 exact HY
end
end
section
noncomputable def sgn (kw:Tk) (w:List Nat):Bool:=az kw.1 kS&&az kw.2 w
noncomputable def jK:List Tk->Nat->Bool
 |_,0=>false
 |[],_+1=>false
 |kw::l,d+1=>if sgn kw [40] then jK l (d+2) else if sgn kw [41] then jK l d else if d==0&&sgn kw [58] then true else jK l (d+1)
noncomputable def isPart (ks:List Tk) (i:Nat):Bool:=if bu ks i kS [40] then jK (ks.drop (i+1)) 1 else false
theorem eR {kw:Tk} {l:List Tk} {d:Nat}:jK (kw::l) (d+1)=if sgn kw [40] then jK l (d+2) else if sgn kw [41] then jK l d else if d==0&&sgn kw [58] then true else jK l (d+1):=rfl
theorem mr (l:List Tk):jK l 0=false:=by rcases l with _|_<;>rfl
section
variable {r tl nd:Nat} {ks:List Tk} {ts:List V}
theorem dr {n i:Nat} {h:H} (S:RS r tl nd ks ts i h):a9 PT0 1000 (n+4) (.fn 255) [.ref r] h=.ok (.bool (isPart ks i)) h:=by
 have g1:=S.rd
 have hz:=S.sz
 let J:Nat->Loc->H->Prop:=fun m ρ h'=>h'=h/\ρ.lookup 56=some (.ref r)/\∃a d:Nat,ρ.lookup 57=some (.int (d:Int))/\ρ.lookup 58=some (.int (a:Int))/\a+m=ks.length+1/\((a=0/\d=0)\/(1<=a/\jK (ks.drop (i+a)) d=isPart ks i))
 let Q:R (Fl×Loc)->Prop:=fun q=>∃ρ',q=.ok (.ret (.bool (isPart ks i)),ρ') h\/(q=.ok (.next,ρ') h/\isPart ks i=false)
 obtain ⟨q,er,ρ',hq⟩:=eP (J:=J) (Q:=Q) (t:=evT PT0 (a9 PT0 1000 (n+3)) d8) (b:=exs PT0 (a9 PT0 1000 (n+3)) 1000 dW) (by
  rintro m ρ h' ⟨rfl,r56,a,d,r57,r58,ham,hJ⟩
  have s1:∀w,a9 PT0 1000 (n+3) (.fn 542) [.ref r,.str w,.int a] h'=.ok (.bool (bu ks (i+a) kS w)) h':=fun w=>br (n:=n) (a:=a) (w:=w) S rfl
  have sA:=s1 [40]
  have sB:=s1 [41]
  have sC:=s1 [58]
  have s0:=br (n:=n) (a:=0) (w:=[40]) (as:=[.ref r,.str [40]]) S rfl
  rw [show i+0=i from rfl] at s0
  by_cases hd:d=0
  ·have hd1:¬(d:Int) > 0:=by rw [hd];decide
   by_cases ha:a=0
   ·have ha1:(a:Int)=0:=by rw [ha];rfl
    by_cases h40:bu ks i kS [40]=true
    ·rw [h40] at s0
     rcases e:ks[i]? with _|kw
     ·rw [(i8 e).2.1] at h40;injection h40
     ·obtain ⟨ad,o,p1,-,p2,-⟩:=de (n:=n+2) (a:=a) (as:=[.ref r,.int a]) S rfl (by rw [ha];exact e)
      have hA:bu ks (i+a) kS [40]=true:=by rw [ha];exact h40
      rw [hA] at sA
      have hlt:=(List.getElem?_eq_some_iff.1 e).1
      have hm:=GL ham (by rw [ha];exact hlt)
      refine .next h' ((58,.int ((a:Int)+1))::(57,.int ((d:Int)+1))::ρ) h' (m - 1) ?_ ?_ (Nat.sub_lt hm Nat.one_pos) ⟨rfl,by exact I0,a+1,d+1,by exact dC rfl bZ,by exact bZ,stp ham hm,.inr ⟨Nat.succ_pos a,?_⟩⟩
      ·delta d8;exact HY
      ·delta dW;exact HY
      ·unfold isPart;rw [h40,ha,hd];rfl
    ·have h40:bu ks i kS [40]=false:=by simpa using h40
     rw [h40] at s0
     refine .stop h' ?_ ⟨ρ,.inr ⟨rfl,by unfold isPart;rw [h40];rfl⟩⟩
     delta d8;exact HY
   ·have ha1:¬(a:Int)=0:=fun q=>ha (Int.natCast_eq_zero.1 q)
    have hJ:=hJ.resolve_left fun q=>ha q.1
    refine .stop h' ?_ ⟨ρ,.inr ⟨rfl,by rw [<-hJ.2,hd];exact mr _⟩⟩
    delta d8;exact HY
  ·have hd1:(d:Int) > 0:=Int.natCast_pos.2 (Nat.pos_of_ne_zero hd)
   have hJ:=hJ.resolve_left fun q=>hd q.2
   obtain ⟨d',rfl⟩:∃d',d=d'+1:=exa (Nat.pos_of_ne_zero hd)
   rcases e:ks[i+a]? with _|kw
   ·have p1:=mz (n:=n+2) (a:=a) (as:=[.ref r,.int a]) S rfl e
    have hf:isPart ks i=false:=by rw [<-hJ.2,HR (List.getElem?_eq_none_iff.1 e)];rfl
    refine .ret h' (.bool false) ρ h' ?_ ?_ ⟨ρ,.inl (by rw [hf])⟩
    ·delta d8;exact HY
    ·delta dW;exact HY
   ·have hlt:=(List.getElem?_eq_some_iff.1 e).1
    have hm:=GL ham hlt
    have hdr:ks.drop (i+a)=kw::ks.drop (i+(a+1)):=by
     rw [List.drop_eq_getElem_cons hlt,(List.getElem?_eq_some_iff.1 e).2];rfl
    obtain ⟨ad,o,p1,-,p2,-⟩:=de (n:=n+2) (a:=a) (as:=[.ref r,.int a]) S rfl e
    have hw:∀w,bu ks (i+a) kS w=sgn kw w:=fun w=>gK e
    rw [hdr] at hJ
    rw [hw] at sA sB sC
    have hJ2:=hJ.2
    rw [eR] at hJ2
    by_cases hA:sgn kw [40]=true
    ·rw [hA] at sA
     rw [if_pos hA] at hJ2
     refine .next h' ((58,.int ((a:Int)+1))::(57,.int (((d'+1:Nat):Int)+1))::ρ) h' (m - 1) ?_ ?_ (Nat.sub_lt hm Nat.one_pos) ⟨rfl,by exact I0,a+1,d'+2,by exact dC rfl bZ,by exact bZ,stp ham hm,.inr ⟨Nat.succ_pos a,hJ2⟩⟩
     ·delta d8;exact HY
     ·delta dW;exact HY
    ·have hA':sgn kw [40]=false:=by simpa using hA
     rw [hA'] at sA
     rw [if_neg hA] at hJ2
     by_cases hB:sgn kw [41]=true
     ·rw [hB] at sB
      rw [if_pos hB] at hJ2
      have hd2:(((d'+1:Nat):Int) - 1)=(d':Int):=Int.add_sub_cancel (d':Int) 1
      refine .next h' ((58,.int ((a:Int)+1))::(57,.int (((d'+1:Nat):Int) - 1))::ρ) h' (m - 1) ?_ ?_ (Nat.sub_lt hm Nat.one_pos) ⟨rfl,by exact I0,a+1,d',by rw [<-hd2];exact dC rfl bZ,by exact bZ,stp ham hm,.inr ⟨Nat.succ_pos a,hJ2⟩⟩
      ·delta d8;exact HY
      ·delta dW;exact HY
     ·have hB':sgn kw [41]=false:=by simpa using hB
      rw [hB'] at sB
      rw [if_neg hB] at hJ2
      by_cases hd0:d'=0
      ·subst hd0
       have hdi:((0+1:Nat):Int)=1:=rfl
       by_cases hC:sgn kw [58]=true
       ·rw [hC] at sC
        rw [if_pos (by rw [hC];rfl)] at hJ2
        refine .ret h' (.bool true) ρ h' ?_ ?_ ⟨ρ,.inl (by rw [<-hJ2])⟩
        ·delta d8;exact HY
        ·delta dW;exact HY
       ·have hC':sgn kw [58]=false:=by simpa using hC
        rw [hC'] at sC
        rw [if_neg (by rw [hC'];simp)] at hJ2
        refine .next h' ((58,.int ((a:Int)+1))::ρ) h' (m - 1) ?_ ?_ (Nat.sub_lt hm Nat.one_pos) ⟨rfl,by exact I0,a+1,1,by exact dC rfl r57,by exact bZ,stp ham hm,.inr ⟨Nat.succ_pos a,hJ2⟩⟩
        ·delta d8;exact HY
        ·delta dW;exact HY
      ·have hdi:¬((d'+1:Nat):Int)=1:=by omega
       have hd0':(d'==0)=false:=by simpa using hd0
       rw [if_neg (by rw [hd0'];simp)] at hJ2
       refine .next h' ((58,.int ((a:Int)+1))::ρ) h' (m - 1) ?_ ?_ (Nat.sub_lt hm Nat.one_pos) ⟨rfl,by exact I0,a+1,d'+1,by exact dC rfl r57,by exact bZ,stp ham hm,.inr ⟨Nat.succ_pos a,hJ2⟩⟩
       ·delta d8;exact HY
       ·delta dW;exact HY) 1000 (ks.length+1) [(58,.int 0),(57,.int 0),(56,.ref r)] h (by omega) ⟨rfl,rfl,0,0,rfl,rfl,by omega,.inl ⟨rfl,rfl⟩⟩
 rcases hq with rfl|⟨rfl,hf⟩
 ·refine af rfl rfl ?_
  delta E7
  exact HY
 ·rw [hf]
  refine af rfl rfl ?_
  delta E7
  exact HY
end
end
section
inductive lE:List V->List Int->Prop
 |nil:lE [] []
 |cons {v:V} {x:Int} {vs:List V} {xs:List Int} (h:fL 3 v x) (t:lE vs xs):lE (v::vs) (x::xs)
theorem lE.snoc {vs:List V} {xs:List Int} {v:V} {x:Int} (a:lE vs xs) (h:fL 3 v x):lE (vs++[v]) (xs++[x]):=by
 induction a with
 |nil=>exact .cons h .nil
 |cons h' t ih=>exact .cons h' ih
theorem lE.len {vs:List V} {xs:List Int} (a:lE vs xs):vs.length=xs.length:=by
 induction a with
 |nil=>rfl
 |cons h' t ih=>simp [ih]
def He:Option Int->V->Prop
 |none,w=>w=.none
 |some y,w=>fL 3 w y
theorem lE.okT {vs:List V} {xs:List Int} (a:lE vs xs):okT vs=true:=by
 cases a with
 |nil=>rfl
 |cons h t=>
  obtain ⟨p,q,rfl⟩:=h.tup
  cases t with
  |nil=>rfl
  |cons h2 t2=>
   obtain ⟨p',q',rfl⟩:=h2.tup
   cases t2<;>rfl
section
variable (r tl nd:Nat) (ks:List Tk) (ts:List V)
def yZ (i1 i2:Nat):Option Int->Prop
 |none=>i2=i1+1
 |some y=>bu ks (i1+1) kS [41]=false/\Rd r tl nd ks ts 814 10 3 (i1+1) i2 y
inductive Seq:Nat->List Int->Nat->Prop
 |nil (i:Nat):Seq i [] i
 |cons {i i1 i2:Nat} {x:Int} {xs:List Int} (e:Rd r tl nd ks ts 814 10 3 i i1 x) (e2:bu ks i kS [41]=false) (t:Seq i1 xs i2):Seq i (x::xs) i2
end
section
variable {r tl nd:Nat} {ks:List Tk} {ts:List V}
theorem ni {n i i1 i2:Nat} {x:Int} {xs:List Int} {h:H} (S:RS r tl nd ks ts i h) (h0:0 < ks.length) (hs:∀kw∈ks,kw.2.length<=100) (e1:bu ks i kS [40]=true) (e2:Rd r tl nd ks ts 814 10 3 (i+1) i1 x) (sq:Seq r tl nd ks ts i1 xs i2) (hx:xs.length<=5) (e3:bu ks i2 kS [41]=true\/ks[i2]?=none):
  (bu ks i2 kS [41]=true->∃h' vs,a9 PT0 1000 (n+11) (.fn 262) [.ref r,.fn 814] h=.ok (.tup vs) h'/\RS r tl nd ks ts (i2+1) h'/\Gr r h h'/\lE vs (x::xs))/\
  (ks[i2]?=none->∃h',a9 PT0 1000 (n+11) (.fn 262) [.ref r,.fn 814] h=.exc 72 h'/\Gr r h h'):=by
 have g1:=S.rd
 have c1:=ba (n:=n+5) S e1
 obtain ⟨h2,v,c2,S2,G2,V2⟩:=e2 (n+10) (by omega) _ S.move
 let J:Nat->Loc->H->Prop:=fun m ρ h'=>ρ.lookup 56=some (.ref r)/\ρ.lookup 61=some (.fn 814)/\ρ.lookup 50=some (.ref h2.length)/\Gr r h h'/\
  ∃(j:Nat) (done rest:List Int) (vs:List V),RS r tl nd ks ts j h'/\Seq r tl nd ks ts j rest i2/\done++rest=x::xs/\rest.length=m/\h'[h2.length]?=some (.list vs)/\lE vs done
 let Q:R (Fl×Loc)->Prop:=fun q=>(bu ks i2 kS [41]=true->∃ρ' h' vs,q=.ok (.next,ρ') h'/\ρ'.lookup 50=some (.ref h2.length)/\RS r tl nd ks ts (i2+1) h'/\Gr r h h'/\h'[h2.length]?=some (.list vs)/\lE vs (x::xs))/\(ks[i2]?=none->∃h',q=.exc 72 h'/\Gr r h h')
 have hr2:r < h2.length:=bF S2.rd
 obtain ⟨q,er,hq⟩:=eP (J:=J) (Q:=Q) (t:=evT PT0 (a9 PT0 1000 (n+10)) iX) (b:=exs PT0 (a9 PT0 1000 (n+10)) 1000 kK) (by
  rintro m ρ h' ⟨r56,r61,r50,hG,j,done,rest,vs,S',sq',hdr,hm,hq,hv⟩
  have g2:=S'.rd
  have hvl:=hv.len
  have hdl:done.length<=6:=by have:=congrArg List.length hdr;simp at this;omega
  cases sq' with
  |nil i=>
   rw [th] at hdr
   subst hdr
   rcases e3 with e3|e3
   ·have c5:=cR (n:=n+6) S' e3
    refine .stop _ (by delta iX;exact HY) ⟨fun Z=>⟨ρ,_,vs,rfl,r50,S'.move,hG.trans Gr.set,bR (by omega) hq,hv⟩,fun e=>?_⟩
    rw [(i8 e).2.1] at e3;injection e3
   ·have hf:bu ks i2 kS [41]=false:=(i8 (kd:=kS) (w:=[41]) e3).2.1
    have c5:=b9 (n:=n+6) S' hf
    obtain ⟨h4,c6,G6⟩:=u5 h0 hs e3 (n+2) h' S'
    have hl7:¬(vs.length:Int)>=7:=by
     have h7:vs.length=xs.length+1:=hvl
     omega
    have hl8:vs.length<=100000:=by
     have h7:vs.length=xs.length+1:=hvl
     omega
    refine .exc h' 72 h4 (by delta iX;exact HY) (by delta kK;exact I2) ⟨fun e=>(by rw [hf] at e;injection e),fun Z=>⟨_,rfl,hG.trans G6⟩⟩
  |@cons j j1 j2 y ys e e2 t=>
   have c5:=b9 (n:=n+6) S' e2
   obtain ⟨h4,w,c6,S4,G4,V4⟩:=e (n+10) (by omega) _ S'
   have hl7:¬(vs.length:Int)>=7:=by omega
   have hl8:vs.length<=100000:=by omega
   have hq4:=G4 _ _ (by omega) hq
   obtain ⟨wa,wb,rfl⟩:=V4.tup
   refine .next h' ρ _ ys.length (by delta iX;exact HY) (by delta kK;exact HY) (by simp at hm;omega) ⟨r56,r61,r50,?_,j1,done++[y],ys,vs++[.tup (wa::wb)],S4.setq (by omega),t,by rw [<-hdr];simp,rfl,dF hq4,hv.snoc V4⟩
   exact (hG.trans G4).setNew (by
    have:=G2
    by_cases hc:h.length<=h2.length
    ·exact hc
    ·exfalso
     have h1:h[h2.length]?=some h[h2.length]:=HJ (by omega)
     have:=(Gr.trans (Gr.set (o:=dJ tl nd (i+1))) G2) _ _ (by omega) h1
     have:=bF this;omega)) 1000 (xs.length) [(50,.ref h2.length),(56,.ref r),(61,.fn 814)] (h2++[.list [v]]) (by omega) ⟨rfl,rfl,rfl,Gr.set.trans (G2.trans Gr.app),i1,[x],xs,[v],S2.app,sq,rfl,rfl,aN,.cons V2 .nil⟩
 obtain ⟨va,vb,rfl⟩:=V2.tup
 constructor
 ·intro e
  obtain ⟨ρ',h',vs,rfl,r50,S',G',hq',V'⟩:=hq.1 e
  have hok:=V'.okT
  have hvl:=V'.len
  have hok2:vs.length<=100000/\okT vs=true:=⟨by rw [hvl];simp;omega,hok⟩
  refine ⟨h',vs,af rfl rfl ?_,S',G',V'⟩
  delta E6
  exact HY
 ·intro e
  obtain ⟨h',rfl,G'⟩:=hq.2 e
  refine ⟨h',af rfl rfl ?_,G'⟩
  delta E6
  exact HY
theorem u3 {n i i1 i2:Nat} {x:Int} {y:Option Int} {h:H} (S:RS r tl nd ks ts i h) (e1:bu ks i kS [40]=true) (e2:Rd r tl nd ks ts 814 10 3 (i+1) i1 x) (e3:bu ks i1 kS [58]=true)
  (e4:yZ r tl nd ks ts i1 i2 y) (e5:bu ks i2 kS [41]=true):
  ∃h' v w,a9 PT0 1000 (n+11) (.fn 269) [.ref r,.fn 814] h=.ok (.tup [v,w]) h'/\RS r tl nd ks ts (i2+1) h'/\Gr r h h'/\fL 3 v x/\He y w:=by
 have g1:=S.rd
 have c1:=ba (n:=n+5) S e1
 obtain ⟨h2,v,c2,S2,G2,V2⟩:=e2 (n+10) (by omega) _ S.move
 have g2:=S2.rd
 have c3:=ba (n:=n+5) S2 e3
 have S3:=S2.move (i':=i1+1)
 have g3:=S3.rd
 have s3:=br (n:=n+7) (a:=0) (w:=[41]) (as:=[.ref r,.str [41]]) S3 rfl
 rw [show i1+1+0=i1+1 from rfl] at s3
 obtain ⟨va,vb,rfl⟩:=V2.tup
 rcases y with _|y
 ·have e4:i2=i1+1:=e4
  subst e4
  rw [e5] at s3
  have c4:=ba (n:=n+5) S3 e5
  refine ⟨_,_,_,af rfl rfl ?_,S3.move,Gr.set.trans (G2.trans (Gr.set.trans Gr.set)),V2,rfl⟩
  delta Bc
  exact HY
 ·obtain ⟨e4,e6⟩:=e4
  rw [e4] at s3
  obtain ⟨h4,w,c4,S4,G4,V4⟩:=e6 (n+10) (by omega) _ S3
  have g4:=S4.rd
  have c5:=ba (n:=n+5) S4 e5
  obtain ⟨wa,wb,rfl⟩:=V4.tup
  refine ⟨_,_,_,af rfl rfl ?_,S4.move,Gr.set.trans (G2.trans (Gr.set.trans (G4.trans Gr.set))),V2,V4⟩
  delta Bc
  exact HY
theorem pP {n i i1 i2:Nat} {x:Int} {y:Option Int} {h:H} (S:RS r tl nd ks ts i h) (h0:0 < ks.length) (hs:∀kw∈ks,kw.2.length<=100) (e1:bu ks i kS [40]=true) (e2:Rd r tl nd ks ts 814 10 3 (i+1) i1 x) (e3:bu ks i1 kS [58]=true)
  (e4:yZ r tl nd ks ts i1 i2 y) (e5:ks[i2]?=none):
  ∃h',a9 PT0 1000 (n+11) (.fn 269) [.ref r,.fn 814] h=.exc 72 h'/\Gr r h h':=by
 have g1:=S.rd
 have c1:=ba (n:=n+5) S e1
 obtain ⟨h2,v,c2,S2,G2,V2⟩:=e2 (n+10) (by omega) _ S.move
 have g2:=S2.rd
 have c3:=ba (n:=n+5) S2 e3
 have S3:=S2.move (i':=i1+1)
 have g3:=S3.rd
 have s3:=br (n:=n+7) (a:=0) (w:=[41]) (as:=[.ref r,.str [41]]) S3 rfl
 rw [show i1+1+0=i1+1 from rfl] at s3
 have hf:bu ks i2 kS [41]=false:=(i8 (kd:=kS) (w:=[41]) e5).2.1
 obtain ⟨va,vb,rfl⟩:=V2.tup
 rcases y with _|y
 ·have e4:i2=i1+1:=e4
  subst e4
  rw [hf] at s3
  obtain ⟨h4,c6,G6⟩:=u5 h0 hs e5 (n+2) _ S3
  refine ⟨h4,af rfl rfl ?_,Gr.set.trans (G2.trans (Gr.set.trans G6))⟩
  delta Bc
  exact HY
 ·obtain ⟨e4,e6⟩:=e4
  rw [e4] at s3
  obtain ⟨h4,w,c4,S4,G4,V4⟩:=e6 (n+10) (by omega) _ S3
  have g4:=S4.rd
  have c5:=mR (n:=n+5) S4 h0 (by decide) hf
  obtain ⟨wa,wb,rfl⟩:=V4.tup
  refine ⟨h4,af rfl rfl ?_,Gr.set.trans (G2.trans (Gr.set.trans G4))⟩
  delta Bc
  exact HY
end
end
section
noncomputable abbrev kOF:List Nat:=[79,70]
noncomputable abbrev kIN:List Nat:=[73,78]
section
variable (r tl nd:Nat) (ks:List Tk) (ts:List V)
inductive jA:Nat->List (List Nat)->Nat->Prop
 |nil (i:Nat) (h1:bu ks i kW kOF=false) (h2:bu ks i kW kIN=false):jA i [] i
 |cons {i i2:Nat} {kw:Tk} {qs:List (List Nat)} (h:bu ks i kW kOF=true\/bu ks i kW kIN=true) (e:ks[i+1]?=some kw) (hn:dM ks (i+1)=true) (t:jA (i+1+1) qs i2):jA i (kw.2::qs) i2
inductive yQ:Nat->List Int->Nat->Prop
 |no (i:Nat) (h:bu ks i kS [40]=false\/isPart ks i=true):yQ i [] i
 |some {i i1 i2:Nat} {x:Int} {xs:List Int} (h1:bu ks i kS [40]=true) (h2:isPart ks i=false) (h3:Rd r tl nd ks ts 814 10 3 (i+1) i1 x) (h4:Seq r tl nd ks ts i1 xs i2) (h5:xs.length<=5) (h6:bu ks i2 kS [41]=true):yQ i (x::xs) (i2+1)
structure pk (i:Nat) (x:Int) (y:Option Int) (i2:Nat):Prop where
 i1:∃i1,Rd r tl nd ks ts 814 10 3 (i+1) i1 x/\bu ks i1 kS [58]=true/\yZ r tl nd ks ts i1 i2 y
 h1:bu ks i kS [40]=true
 h2:isPart ks i=true
inductive sj:Nat->Option (Int×Option Int)->Nat->Prop
 |no (i:Nat) (h:isPart ks i=false):sj i none i
 |some {i i2:Nat} {x:Int} {y:Option Int} (p:pk r tl nd ks ts i x y i2) (h:bu ks i2 kS [41]=true):sj i (some (x,y)) (i2+1)
end
def Gv:Option (Int×Option Int)->V->Prop
 |none,pv=>pv=.none
 |some (x,y),pv=>∃v w,pv=.tup [v,w]/\fL 3 v x/\He y w
theorem wX (qs:List (List Nat)):okT (qs.map V.str)=true:=by
 match qs with
 |[]=>rfl
 |[_]=>rfl
 |[_,_]=>rfl
 |_::_::_::_=>rfl
section
variable {r tl nd:Nat} {ks:List Tk} {ts:List V}
theorem um {n i0 i1 q:Nat} {nm:List Nat} {f:V} {qs:List (List Nat)} {h:H} (S:RS r tl nd ks ts i0 h) (hs:∀kw∈ks,kw.2.length<=100) (hq:jA ks i0 qs i1) (hqh:h[q]?=some (.list [])) (hrq:r < q) (hql:qs.length<=900):
  ∃ρ' h',cZ (evT PT0 (a9 PT0 1000 (n+11)) iW) (exs PT0 (a9 PT0 1000 (n+11)) 1000 kJ) 1000 [(67,.ref q),(19,.str nm),(56,.ref r),(61,f)] h=.ok (.next,ρ') h'/\
   ρ'.lookup 67=some (.ref q)/\ρ'.lookup 19=some (.str nm)/\ρ'.lookup 56=some (.ref r)/\ρ'.lookup 61=some f/\RS r tl nd ks ts i1 h'/\(∀j o,j≠r->j≠q->h[j]?=some o->h'[j]?=some o)/\h'[q]?=some (.list (qs.map .str)):=by
 let J:Nat->Loc->H->Prop:=fun m ρ h'=>ρ.lookup 67=some (.ref q)/\ρ.lookup 19=some (.str nm)/\ρ.lookup 56=some (.ref r)/\ρ.lookup 61=some f/\(∀j o,j≠r->j≠q->h[j]?=some o->h'[j]?=some o)/\
  ∃(j:Nat) (done rest:List (List Nat)),RS r tl nd ks ts j h'/\jA ks j rest i1/\done++rest=qs/\rest.length=m/\h'[q]?=some (.list (done.map .str))
 let Q:R (Fl×Loc)->Prop:=fun x=>∃ρ' h',x=.ok (.next,ρ') h'/\ρ'.lookup 67=some (.ref q)/\ρ'.lookup 19=some (.str nm)/\ρ'.lookup 56=some (.ref r)/\ρ'.lookup 61=some f/\RS r tl nd ks ts i1 h'/\(∀j o,j≠r->j≠q->h[j]?=some o->h'[j]?=some o)/\h'[q]?=some (.list (qs.map .str))
 obtain ⟨x,er,ρ',h',rfl,hx⟩:=eP (J:=J) (Q:=Q) (t:=evT PT0 (a9 PT0 1000 (n+11)) iW) (b:=exs PT0 (a9 PT0 1000 (n+11)) 1000 kJ) (by
  rintro m ρ h' ⟨r67,r19,r56,r61,hG,j,done,rest,S',hq',hdr,hm,hqh'⟩
  have g1:=S'.rd
  cases hq' with
  |nil i h1 h2=>
   rw [th] at hdr
   subst hdr
   obtain ⟨g,e1⟩:=vh (n:=n+6) S' h1 h2
   refine .stop (h'++g) ?_ ⟨ρ,_,rfl,r67,r19,r56,r61,S'.app,fun j o n1 n2 e=>ax (hG j o n1 n2 e),ax hqh'⟩
   delta iW;exact HY
  |@cons _ _ kw qs' h1 e hn t=>
   obtain ⟨h2,c,w,e1,S2,G2⟩:=r7 (n:=n+6) S' h1
   have g2:=S2.rd
   have e2:=la (n:=n+7) S2 hs e hn
   have hq2:=G2 _ _ (by omega) hqh'
   have hq3:(h2.set r (dJ tl nd (j+1+1)))[q]?=some (.list (done.map .str)):=bR (by omega) hq2
   have hdl:(done.map V.str).length<=100000:=by
    have:=congrArg List.length hdr
    simp at this ⊢;omega
   refine .next h2 ρ ((h2.set r (dJ tl nd (j+1+1))).set q (.list (done.map .str++[.str kw.2]))) qs'.length ?_ ?_ (by simp at hm;omega) ⟨r67,r19,r56,r61,?_,j+1+1,done++[kw.2],qs',S2.move.setq hrq,t,by rw [<-hdr];simp,rfl,?_⟩
   ·delta iW;exact HY
   ·delta kJ;exact HY
   ·intro k o n1 n2 ek
    exact bR (by omega) (bR (by omega) (G2 _ _ n1 (hG k o n1 n2 ek)))
   ·rw [List.map_append];exact dF hq3) 1000 qs.length [(67,.ref q),(19,.str nm),(56,.ref r),(61,f)] h (by omega) ⟨rfl,rfl,rfl,rfl,fun Z Z Z Z e=>e,i0,[],qs,S,hq,rfl,rfl,hqh⟩
 exact ⟨ρ',h',er,hx⟩
theorem CI {n i i1 i2 i3:Nat} {kw:Tk} {qs:List (List Nat)} {xs:List Int} {p:Option (Int×Option Int)} {h:H} (S:RS r tl nd ks ts i h) (h0:0 < ks.length) (hs:∀kw∈ks,kw.2.length<=100)
  (e:ks[i]?=some kw) (hn:dM ks i=true) (hq:jA ks (i+1) qs i1) (hql:qs.length<=900) (hsub:yQ r tl nd ks ts i1 xs i2) (hp:sj r tl nd ks ts i2 p i3):
  ∃h' vs pv,a9 PT0 1000 (n+12) (.fn 276) [.ref r,.fn 814] h=.ok (.tup [.str [114,101,102],.str kw.2,.tup (qs.map .str),.tup vs,pv]) h'/\RS r tl nd ks ts i3 h'/\Gr r h h'/\lE vs xs/\Gv p pv:=by
 have g1:=S.rd
 have e1:=la (n:=n+7) S hs e hn
 have S1:=S.move (i':=i+1)
 have hr1:r < (h.set r (dJ tl nd (i+1))).length:=by have:=bF S.rd;simp;omega
 obtain ⟨ρ',h2,er,r67,r19,r56,r61,S2,G2,hq2⟩:=um (n:=n) (nm:=kw.2) (f:=.fn 814) (S1.app (g:=[.list []])) hs hq aN hr1 hql
 have g2:=S2.rd
 have hG:Gr r h h2:=fun j o ne ej=>G2 j o ne (by have:=bF ej;simp;omega) (ax (bR (Ne.symm ne) ej))
 have s1:=br (n:=n+8) (a:=0) (w:=[40]) (as:=[.ref r,.str [40]]) S2 rfl
 rw [show i1+0=i1 from rfl] at s1
 have p1:=dr (n:=n+7) S2
 have hok:=wX qs
 cases hsub with
 |no hno=>
  have hsk:evT PT0 (a9 PT0 1000 (n+11)) (.and (.meth (.loc 56) 59 [.str [40]]) (.not (.call (.stat (.fn 255)) [.loc 56]))) ((69,.tup [])::ρ') h2=.ok false h2:=by
   by_cases h40:bu ks i1 kS [40]=true
   ·rw [h40] at s1
    rw [hno.resolve_left (by rw [h40];simp)] at p1
    exact HY
   ·have h40:bu ks i1 kS [40]=false:=by simpa using h40
    rw [h40] at s1
    exact HY
  have hok2:(qs.map V.str).length<=100000/\okT (qs.map V.str)=true:=⟨by simp;omega,hok⟩
  cases hp with
  |no hpn=>
   rw [hpn] at p1
   refine ⟨h2,[],.none,af rfl rfl ?_,S2,hG,.nil,rfl⟩
   delta vW
   exact HY
  |@some i2' x y hpa hc=>
   rw [hpa.h2] at p1
   obtain ⟨i1',ha,hb,hc2⟩:=hpa.i1
   obtain ⟨h3,v,w,c3,S3,G3,V3,W3⟩:=u3 (n:=n) S2 hpa.h1 ha hb hc2 hc
   have hq3:=G3 _ _ (by omega) hq2
   refine ⟨h3,[],.tup [v,w],af rfl rfl ?_,S3,hG.trans G3,.nil,v,w,rfl,V3,W3⟩
   delta vW
   exact HY
 |@some ia ib x ys h1 h2' h3 h4 h5 h6=>
  rw [h1] at s1
  rw [h2'] at p1
  obtain ⟨h3,vs,c3,S3,G3,V3⟩:=(ni (n:=n) S2 h0 hs h1 h3 h4 h5 (.inl h6)).1 h6
  have hq3:=G3 _ _ (by omega) hq2
  have hok2:(qs.map V.str).length<=100000/\okT (qs.map V.str)=true:=⟨by simp;omega,hok⟩
  have p3:=dr (n:=n+7) S3
  cases hp with
  |no hpn=>
   rw [hpn] at p3
   refine ⟨h3,vs,.none,af rfl rfl ?_,S3,hG.trans G3,V3,rfl⟩
   delta vW
   exact HY
  |@some i2' x y hpa hc=>
   rw [hpa.h2] at p3
   obtain ⟨i1',ha,hb,hc2⟩:=hpa.i1
   obtain ⟨h4,v,w,c4,S4,G4,V4,W4⟩:=u3 (n:=n) S3 hpa.h1 ha hb hc2 hc
   have hq4:=G4 _ _ (by omega) hq3
   refine ⟨h4,vs,.tup [v,w],af rfl rfl ?_,S4,hG.trans (G3.trans G4),V3,v,w,rfl,V4,W4⟩
   delta vW
   exact HY
theorem zE {n i i1 i2 i3:Nat} {kw:Tk} {qs:List (List Nat)} {h:H} (S:RS r tl nd ks ts i h) (h0:0 < ks.length) (hs:∀kw∈ks,kw.2.length<=100)
  (e:ks[i]?=some kw) (hn:dM ks i=true) (hq:jA ks (i+1) qs i1) (hql:qs.length<=900)
  (hc:(∃x xs ia,bu ks i1 kS [40]=true/\isPart ks i1=false/\Rd r tl nd ks ts 814 10 3 (i1+1) ia x/\Seq r tl nd ks ts ia xs i2/\xs.length<=5/\ks[i2]?=none)\/
   (∃xs x y,yQ r tl nd ks ts i1 xs i2/\pk r tl nd ks ts i2 x y i3/\ks[i3]?=none)):
  ∃h',a9 PT0 1000 (n+12) (.fn 276) [.ref r,.fn 814] h=.exc 72 h'/\Gr r h h':=by
 have g1:=S.rd
 have e1:=la (n:=n+7) S hs e hn
 have S1:=S.move (i':=i+1)
 have hr1:r < (h.set r (dJ tl nd (i+1))).length:=by have:=bF S.rd;simp;omega
 obtain ⟨ρ',h2,er,r67,r19,r56,r61,S2,G2,hq2⟩:=um (n:=n) (nm:=kw.2) (f:=.fn 814) (S1.app (g:=[.list []])) hs hq aN hr1 hql
 have g2:=S2.rd
 have GH:Gr r h h2:=fun j o n1 g=>G2 j o n1 (by have:=bF g;simp;omega) (ax (bR (Ne.symm n1) g))
 have s1:=br (n:=n+8) (a:=0) (w:=[40]) (as:=[.ref r,.str [40]]) S2 rfl
 rw [show i1+0=i1 from rfl] at s1
 have p1:=dr (n:=n+7) S2
 rcases hc with ⟨x,xs,ia,h1,h2',h3,h4,h5,h6⟩|⟨xs,x,y,hsub,hpa,hend⟩
 ·rw [h1] at s1
  rw [h2'] at p1
  obtain ⟨h3,c3,G3⟩:=(ni (n:=n) S2 h0 hs h1 h3 h4 h5 (.inr h6)).2 h6
  refine ⟨h3,af rfl rfl ?_,GH.trans G3⟩
  delta vW
  exact HY
 ·obtain ⟨i1',ha,hb,hc2⟩:=hpa.i1
  cases hsub with
  |no hno=>
   have hsk:evT PT0 (a9 PT0 1000 (n+11)) (.and (.meth (.loc 56) 59 [.str [40]]) (.not (.call (.stat (.fn 255)) [.loc 56]))) ((69,.tup [])::ρ') h2=.ok false h2:=by
    rw [hpa.h1] at s1
    rw [hpa.h2] at p1
    exact HY
   rw [hpa.h2] at p1
   obtain ⟨h3,c3,G3⟩:=pP (n:=n) S2 h0 hs hpa.h1 ha hb hc2 hend
   refine ⟨h3,af rfl rfl ?_,GH.trans G3⟩
   delta vW
   exact HY
  |@some ia ib x ys h1 h2' h3 h4 h5 h6=>
   rw [h1] at s1
   rw [h2'] at p1
   obtain ⟨h3,vs,c3,S3,G3,V3⟩:=(ni (n:=n) S2 h0 hs h1 h3 h4 h5 (.inl h6)).1 h6
   have p3:=dr (n:=n+7) S3
   rw [hpa.h2] at p3
   obtain ⟨h4,c4,G4⟩:=pP (n:=n) S3 h0 hs hpa.h1 ha hb hc2 hend
   refine ⟨h4,af rfl rfl ?_,GH.trans (G3.trans G4)⟩
   delta vW
   exact HY
end
end
section
section
variable (k d:Nat)
noncomputable def shN (n:Nat):Nat:=if n < k then n else n+d
mutual
noncomputable def V.sh:V->V
 |.ref n=>.ref (shN k d n)
 |.tup xs=>.tup (shs xs)
 |.none=>.none|.bool b=>.bool b|.int i=>.int i|.str s=>.str s|.rng a b=>.rng a b|.fn a=>.fn a|.cls a=>.cls a|.exc c=>.exc c|.bt T=>.bt T|.bf i=>.bf i
noncomputable def shs:List V->List V
 |[]=>[]
 |v::r=>v.sh::shs r
end
noncomputable def shK (e:Key×V):Key×V:=(e.1,e.2.sh k d)
noncomputable def shF (e:Nat×V):Nat×V:=(e.1,e.2.sh k d)
noncomputable def O.sh:O->O
 |.list xs=>.list (xs.map (V.sh k d))
 |.dict es=>.dict (es.map (shK k d))
 |.inst c fs=>.inst c (fs.map (shF k d))
end
theorem cm {k d:Nat}:∀xs,shs k d xs=xs.map (V.sh k d)
 |[]=>rfl
 |v::r=>congrArg (v.sh k d::·) (cm r)
noncomputable def up (k:Nat) (t h:H):H:=(h.take k).map (O.sh k t.length)++t++(h.drop k).map (O.sh k t.length)
section
variable {k:Nat} {t h:H}
theorem yd {d m n:Nat}:shN k d m=shN k d n↔m=n:=by
 unfold shN
 have g:∀{a b:Nat},a < k->¬b < k->(a=b+d↔a=b):=fun x y=>⟨fun e=>absurd (Nat.lt_of_le_of_lt (Nat.le_add_right _ d) (e▸x)) y,fun e=>absurd (e▸x) y⟩
 by_cases h1:m < k<;>by_cases h2:n < k<;>simp only [h1,h2,if_true,if_false]
 ·exact g h1 h2
 ·exact ⟨fun e=>((g h2 h1).1 e.symm).symm,fun e=>((g h2 h1).2 e.symm).symm⟩
 ·exact ⟨Nat.add_right_cancel,fun e=>e▸rfl⟩
theorem sE (hk:k<=h.length):shN k t.length h.length=(up k t h).length:=by
 unfold shN up
 rw [if_neg (Nat.not_lt.2 hk)]
 simp only [List.length_append,on,List.length_take,List.length_drop]
 rw [Nat.min_eq_left hk,Nat.add_right_comm,Nat.add_sub_of_le hk]
theorem sx {o:O} (hk:k<=h.length):up k t (h++[o])=up k t h++[o.sh k t.length]:=by
 unfold up
 rw [List.take_append_of_le_length hk,List.drop_append_of_le_length hk,List.map_append,<-HT];rfl
theorem eI {n:Nat} (hk:k<=h.length):(up k t h)[shN k t.length n]?=h[n]?.map (O.sh k t.length):=by
 have ha:((h.take k).map (O.sh k t.length)).length=k:=by rw [on,List.length_take];exact Nat.min_eq_left hk
 unfold up shN
 by_cases hn:n < k
 ·rw [if_pos hn,HT,HK (Nat.lt_of_lt_of_eq hn ha.symm),List.getElem?_map,List.getElem?_take_of_lt hn]
 ·rw [if_neg hn,List.getElem?_append_right (by rw [List.length_append,ha];omega),List.length_append,ha,List.getElem?_map,List.getElem?_drop]
  congr 2
  all_goals first|exact Nat.add_sub_add_right ..|rw [Nat.add_sub_add_right,Nat.add_sub_of_le (Nat.le_of_not_lt hn)]
theorem xX {n:Nat} {o:O} (hk:k<=h.length):(up k t h).set (shN k t.length n) (o.sh k t.length)=up k t (h.set n o):=by
 have ha:((h.take k).map (O.sh k t.length)).length=k:=by rw [on,List.length_take];exact Nat.min_eq_left hk
 unfold up shN
 by_cases hn:n < k
 ·rw [if_pos hn,HT,List.set_append_left _ _ (Nat.lt_of_lt_of_eq hn ha.symm),List.take_set,List.drop_set_of_lt hn,List.map_set,HT]
 ·rw [if_neg hn,List.set_append_right _ _ (by rw [List.length_append,ha];exact Nat.add_le_add_right (Nat.le_of_not_lt hn) _),List.length_append,ha,List.take_set_of_le (Nat.le_of_not_lt hn),List.drop_set,if_neg hn,List.map_set]
  congr 2
  all_goals first|exact Nat.add_sub_add_right ..|rw [Nat.add_sub_add_right,Nat.add_sub_of_le (Nat.le_of_not_lt hn)]
end
end
section
section
variable {k:Nat} {t:H}
variable (k t) in
noncomputable abbrev sV:V->V:=V.sh k t.length
variable (k t) in
noncomputable abbrev sO:O->O:=O.sh k t.length
variable (k t) in
def ao {α:Type} (s:α->α) (r r':R α):Prop:=match r with
 |.ok a h=>k<=h.length/\r'=.ok (s a) (up k t h)
 |.exc c h=>k<=h.length/\r'=.exc c (up k t h)
 |.bad=>True
theorem ao.bd {α β:Type} {s:α->α} {u:β->β} {m m':R α} {f f':α->H->R β} (a:ao k t s m m') (b:∀x h,k<=h.length->ao k t u (f x h) (f' (s x) (up k t h))):ao k t u (m.bd f) (m'.bd f'):=by
 rcases m with ⟨x,h⟩|⟨c,h⟩|_
 ·rw [a.2];exact b x h a.1
 ·rw [a.2];exact ⟨a.1,rfl⟩
 ·exact trivial
theorem ao.opt {β γ δ:Type} {u:β->β} {o:Option γ} {o':Option δ} {g:γ->δ} {f:γ->R β} {f':δ->R β} (e:o'=o.map g) (b:∀x,ao k t u (f x) (f' (g x))):ao k t u (bq o f) (bq o' f'):=by
 subst e
 rcases o with _|x
 ·exact trivial
 ·exact b x
theorem ao.ask {α:Type} {u:α->α} {o o':Option α} {h:H} (hk:k<=h.length) (e:o'=o.map u):ao k t u (eB o h) (eB o' (up k t h)):=by
 subst e
 rcases o with _|x
 ·exact trivial
 ·exact ⟨hk,rfl⟩
theorem ao.ifr {β:Type} {u:β->β} {b b':Bool} {m m':R β} (e:b'=b) (a:ao k t u m m'):ao k t u (ifR b m) (ifR b' m'):=by
 subst e
 rcases b' with _|_
 ·exact trivial
 ·exact a
theorem ao.ok {α:Type} {u:α->α} {a:α} {h:H} (hk:k<=h.length):ao k t u (.ok a h) (.ok (u a) (up k t h)):=⟨hk,rfl⟩
theorem ao.cnd {β:Type} {u:β->β} {q:Bool} {a b a' b':R β} (x:ao k t u a a') (y:ao k t u b b'):ao k t u (cond q a b) (cond q a' b'):=by
 rcases q with _|_
 ·exact y
 ·exact x
theorem eJ (v:V):(sV k t v).isNone=v.isNone:=by rcases v with _|_<;>rfl
theorem zu (v:V):(sV k t v).bool?=v.bool?:=by rcases v with _|_<;>rfl
theorem cH (v:V):(sV k t v).int?=v.int?:=by rcases v with _|_<;>rfl
theorem cV (v:V):(sV k t v).str?=v.str?:=by rcases v with _|_<;>rfl
theorem jM (v:V):(sV k t v).tup?=v.tup?.map (List.map (sV k t)):=by
 rcases v with _|_<;>first|rfl|exact congrArg some (cm _)
theorem bY (v:V):(sV k t v).ref?=v.ref?.map (shN k t.length):=by rcases v with _|_<;>rfl
theorem Fp (v:V):Bi (sV k t v)=Bi v:=by rcases v with _|_<;>rfl
theorem wK (v:V):(sV k t v).isStr=v.isStr:=by rcases v with _|_<;>rfl
theorem Cx (v:V):(sV k t v).isTyT=v.isTyT:=by rcases v with _|_<;>rfl
theorem v6 (v:V):(sV k t v).placed=v.placed:=by rcases v with _|_<;>rfl
theorem zm (v:V):(sV k t v).seen=v.seen:=by rcases v with _|_<;>rfl
theorem zt (v:V):cK (sV k t v)=cK v:=by rcases v with _|_<;>rfl
theorem wJ (v:V):qy (sV k t v)=qy v:=by rcases v with _|_<;>rfl
theorem zy (o:O):(sO k t o).list?=o.list?.map (List.map (sV k t)):=by rcases o with _|_<;>rfl
theorem zB (o:O):(sO k t o).dict?=o.dict?.map (List.map (shK k t.length)):=by rcases o with _|_<;>rfl
theorem zA (o:O):(sO k t o).inst?=o.inst?.map fun p=>(p.1,p.2.map (shF k t.length)):=by rcases o with _|_<;>rfl
theorem iL {l:List V}:two (l.map (sV k t))=(two l).map fun p=>(sV k t p.1,sV k t p.2):=by
 match l with
 |[]=>rfl
 |[_]=>rfl
 |[_,_]=>rfl
 |_::_::_::_=>rfl
theorem eu {l:List V}:one (l.map (sV k t))=(one l).map (sV k t):=by
 match l with
 |[]=>rfl
 |[_]=>rfl
 |_::_::_=>rfl
theorem Cy (a b:V):okP (sV k t a) (sV k t b)=okP a b:=by unfold okP;rw [eJ,eJ,v6,cH]
theorem sD (l:List V):okT (l.map (sV k t))=okT l:=by
 unfold okT
 rw [iL]
 rcases two l with _|p
 ·rfl
 ·exact Cy ..
theorem CC (b:V):eqN (sV k t b)=eqN b:=by unfold eqN;rw [eJ,cV]
theorem CB (x:List Nat) (b:V):eqS x (sV k t b)=eqS x b:=by unfold eqS;rw [eJ,cV]
theorem tJ (a b:V):vS (sV k t a) (sV k t b)=vS a b:=by
 induction a using V.casesOn with
 |none=>exact CC b
 |bool x=>exact congrArg (Option.map _) (zu b)
 |int x=>exact congrArg (Option.map _) (cH b)
 |str x=>exact CB x b
 |_=>rfl
theorem nq:∀x y:List V,oG (x.map (sV k t)) (y.map (sV k t))=oG x y
 |[],[]=>rfl
 |[],_::_=>rfl
 |_::_,[]=>rfl
 |a::x,b::y=>by
  show (vS (sV k t a) (sV k t b)).bind _=(vS a b).bind _
  rw [tJ,<-nq x y]
theorem Cw (a b:V):veq (sV k t a) (sV k t b)=veq a b:=by
 unfold veq
 rw [jM,jM]
 rcases a.tup? with _|xs
 ·rcases b.tup? with _|ys
  ·exact tJ a b
  ·exact congrArg (Option.map _) (cV a)
 ·rcases b.tup? with _|ys
  ·exact congrArg (Option.map _) (cV b)
  ·exact nq xs ys
theorem nt (x:Nat):∀fs:List (Nat×V),(fs.map (shF k t.length)).lookup x=(fs.lookup x).map (sV k t)
 |[]=>rfl
 |e::r=>by
  rw [List.map_cons,so,so,nt x r]
  show (match x==e.1 with|true=>some (sV k t e.2)|false=>_)=_
  rcases x==e.1 with _|_<;>rfl
section
variable {h:H} (hk:k<=h.length)
include hk
theorem bA (n:Nat):bv (up k t h) (shN k t.length n)=(bv h n).map (List.map (sV k t)):=by
 unfold bv
 rw [eI hk]
 rcases h[n]? with _|o
 ·rfl
 ·exact zy o
theorem tP (n:Nat):getD (up k t h) (shN k t.length n)=(getD h n).map (List.map (shK k t.length)):=by
 unfold getD
 rw [eI hk]
 rcases h[n]? with _|o
 ·rfl
 ·exact zB o
theorem tO (n:Nat):rZ (up k t h) (shN k t.length n)=(rZ h n).map fun p=>(p.1,p.2.map (shF k t.length)):=by
 unfold rZ
 rw [eI hk]
 rcases h[n]? with _|o
 ·rfl
 ·exact zA o
theorem gY {α β:Type} (f:α->β) (l:List α):(l.map f).isEmpty=l.isEmpty:=by rcases l with _|_<;>rfl
theorem wF (a b:Nat):sb (shN k t.length a) (shN k t.length b) (up k t h)=sb a b h:=by
 unfold sb
 rw [bA hk,bA hk]
 rcases bv h a with _|x
 ·rfl
 ·rcases bv h b with _|y
  ·rfl
  ·show ifO ((x.map _).isEmpty||(y.map _).isEmpty) (some ((x.map _).isEmpty&&(y.map _).isEmpty))=_
   rw [gY hk,gY hk];rfl
theorem pL (a b:V):kx (sV k t a) (sV k t b) (up k t h)=kx a b h:=by
 unfold kx
 rw [bY,bY]
 rcases a.ref? with _|m
 ·exact Cw a b
 ·rcases b.ref? with _|n
  ·rfl
  ·exact wF hk m n
theorem j7:∀l:List V,bX (l.map (sV k t))=bX l
 |[]=>rfl
 |v::r=>by
  show (sV k t v).str?.bind _=v.str?.bind _
  rw [cV,j7 r]
theorem mo (x:List Nat) (l:List V):jO x (l.map (sV k t))=jO x l:=congrArg (Option.map _) (j7 hk l)
theorem tM:∀l:List V,(l.map (sV k t)).mapM cK=l.mapM cK
 |[]=>rfl
 |v::r=>by
  rw [List.map_cons,List.mapM_cons,List.mapM_cons,zt,tM r]
theorem wI (v:V):qx (sV k t v)=qx v:=by
 induction v using V.casesOn with
 |tup xs=>show (List.mapM cK (shs k t.length xs)).map _=_;rw [cm,tM hk];rfl
 |_=>rfl
theorem ip (v:V) (es:List (Key×V)):dy (sV k t v) (es.map (shK k t.length))=dy v es:=by
 unfold dy
 rw [wI hk]
 rcases qx v with _|q
 ·rfl
 ·show ifO ((es.map _).all _) _=ifO _ _;rw [List.all_map];rfl
theorem g9 (q:Key):∀es:List (Key×V),(es.map (shK k t.length)).lookup q=(es.lookup q).map (sV k t)
 |[]=>rfl
 |e::r=>by
  rw [List.map_cons,so,so,g9 q r]
  show (match q==e.1 with|true=>some (sV k t e.2)|false=>_)=_
  rcases q==e.1 with _|_<;>rfl
theorem pI (x:Nat) (fs:List (Nat×V)):(fs.map (shF k t.length)).lookup x=(fs.lookup x).map (sV k t):=nt x fs
theorem zk (x:List Nat) (o:O):Ec x (sO k t o)=Ec x o:=by
 rcases o with xs|es|⟨c,fs⟩
 ·exact mo hk x xs
 ·show (dy (sV k t (.str x)) (es.map _)).map _=(dy (.str x) es).map _
  rw [ip hk]
  exact congrArg (fun f=>Option.map f (dy (.str x) es)) (funext fun q=>by rw [g9 hk];rcases es.lookup q with _|_<;>rfl)
 ·rfl
theorem yb (a b:V):vin (sV k t a) (sV k t b) (up k t h)=vin a b h:=by
 unfold vin
 rw [cV]
 refine congrArg (fun f=>Option.bind a.str? f) (funext fun x=>?_)
 induction b using V.casesOn with
 |tup ys=>show jO x (shs k t.length ys)=_;rw [cm];exact mo hk x ys
 |ref n=>
  show (up k t h)[shN k t.length n]?.bind _=h[n]?.bind _
  rw [eI hk]
  rcases h[n]? with _|o
  ·rfl
  ·exact zk hk x o
 |_=>rfl
theorem eK {α:Type} (a b:V) (f:Int->Int->Option α):gF (sV k t a) (sV k t b) f=gF a b f:=by unfold gF;rw [cH,cH]
theorem CA (a b:V):leV (sV k t a) (sV k t b)=leV a b:=by unfold leV;rw [cV,cV,eK hk]
theorem xZ (a b:V):vis (sV k t a) (sV k t b)=vis a b:=by
 unfold vis
 rw [eJ,eJ,zm,bY,bY]
 rcases b.ref? with _|n
 ·rfl
 ·rcases a.ref? with _|m
  ·rfl
  ·have e:(shN k t.length m==shN k t.length n)=(m==n):=by
    rcases q:m==n with _|_
    ·exact beq_eq_false_iff_ne.2 fun e=>(beq_eq_false_iff_ne.1 q) (yd.1 e)
    ·rw [eq_of_beq q];exact beq_self_eq_true _
   show (if b.isNone=true then _ else if a.isNone=true then _ else some (shN k t.length m==shN k t.length n))=_
   rw [e];rfl
theorem cT (op:CmpOp) (a b:V):aH op (sV k t a) (sV k t b) (up k t h)=aH op a b h:=by
 rcases op with _|_|_|_|_|_|_|_|_|_
 ·exact pL hk a b
 ·exact congrArg (Option.map _) (pL hk a b)
 ·exact eK hk a b _
 ·exact CA hk a b
 ·exact eK hk a b _
 ·exact eK hk a b _
 ·exact xZ hk a b
 ·exact congrArg (Option.map _) (xZ hk a b)
 ·exact yb hk a b
 ·exact congrArg (Option.map _) (yb hk a b)
theorem wH (v:V):lM (sV k t v) (up k t h)=lM v h:=by
 induction v using V.casesOn with
 |tup s=>show some (shs k t.length s).length=_;rw [cm,on];rfl
 |ref n=>
  show (bv (up k t h) (shN k t.length n)).map _=(bv h n).map _
  rw [bA hk]
  rcases bv h n with _|x
  ·rfl
  ·exact congrArg some (on _)
 |_=>rfl
theorem nu (v:V):oJ (sV k t v) (up k t h)=oJ v h:=by unfold oJ;rw [wH hk]
theorem gk (v:V):truthy (sV k t v) (up k t h)=truthy v h:=by
 induction v using V.casesOn with
 |tup s=>exact congrArg (Option.map _) (nu hk (.tup s))
 |ref n=>exact congrArg (Option.map _) (nu hk (.ref n))
 |_=>rfl
end
end
end
section
section
variable {k:Nat} {t:H} {h:H} (hk:k<=h.length)
theorem cI {α:Type} (o:Option α):o=o.map id:=by rcases o with _|_<;>rfl
theorem nT (o:O):k<=h.length->k<=(h++[o]).length:=fun hk=>HN hk (by rw [List.length_append];exact Nat.le_add_right ..)
include hk
theorem dQ (xs:List V):ao k t (sV k t) (fw xs h) (fw (xs.map (sV k t)) (up k t h)):=by
 refine ⟨nT _ hk,?_⟩
 unfold fw
 rw [sx hk,<-sE hk];rfl
theorem kh (xs:List V):ao k t (sV k t) (newList xs h) (newList (xs.map (sV k t)) (up k t h)):=ao.ifr (by rw [on]) (dQ hk xs)
theorem Ak (a b:V):ao k t (sV k t) (Ea a b h) (Ea (sV k t a) (sV k t b) (up k t h)):=by
 induction a using V.casesOn with
 |int x=>exact ao.opt (g:=id) ((cH b).trans (cI _)) fun y=>ao.ok hk
 |str x=>exact ao.opt (g:=id) ((cV b).trans (cI _)) fun y=>ao.ifr rfl (ao.ok hk)
 |tup x=>
  refine ao.opt (jM b) fun y=>?_
  show ao k t (sV k t) _ (ifR (decide ((shs k t.length x).length+(y.map (sV k t)).length<=100000)&&okT (shs k t.length x++y.map (sV k t))) (.ok (.tup (shs k t.length x++y.map (sV k t))) (up k t h)))
  rw [cm,<-List.map_append]
  refine ao.ifr (by rw [sD,on,on]) ⟨hk,?_⟩
  show _=R.ok (V.tup (shs k t.length (x++y))) _
  rw [cm]
 |ref m=>
  refine ao.opt (bA hk m) fun x=>ao.opt (bY b) fun n=>ao.opt (bA hk n) fun y=>ao.ifr (by rw [on,on]) ?_
  rw [<-List.map_append]
  exact dQ hk _
 |_=>exact trivial
theorem xo (op:Operator) (a b:V):ao k t (sV k t) (fK op a b h) (fK op (sV k t a) (sV k t b) (up k t h)):=by
 have gen:ao k t (sV k t) (bq (gF a b (si op)) fun i=>.ok (.int i) h) (bq (gF (sV k t a) (sV k t b) (si op)) fun i=>.ok (.int i) (up k t h)):=
  ao.opt (g:=id) ((eK hk a b _).trans (cI _)) fun y=>ao.ok hk
 induction op using PySem.Operator.casesOn with
 |Add=>exact Ak hk a b
 |_=>exact gen
theorem mn {α β:Type} (f:α->β) (l:List α) (i:Int):aC (l.map f) i=(aC l i).map f:=by
 unfold aC
 rw [on]
 by_cases h1:small i=false
 ·rw [if_pos h1,if_pos h1];rfl
 ·rw [if_neg h1,if_neg h1]
  by_cases h2:0<=i
  ·rw [if_pos h2,if_pos h2,List.getElem?_map]
  ·rw [if_neg h2,if_neg h2]
   by_cases h3:0<=i+l.length
   ·rw [if_pos h3,if_pos h3,List.getElem?_map]
   ·rw [if_neg h3,if_neg h3];rfl
theorem zr (o:O) (i:V):Em (sO k t o) (sV k t i)=(Em o i).map (sV k t):=by
 rcases o with xs|es|⟨c,fs⟩
 ·show (sV k t i).int?.bind _=(i.int?.bind _).map _
  rw [cH]
  rcases i.int? with _|j
  ·rfl
  ·exact mn hk _ xs j
 ·show (dy (sV k t i) (es.map _)).bind _=((dy i es).bind _).map _
  rw [ip hk]
  rcases dy i es with _|q
  ·rfl
  ·exact g9 hk q es
 ·rfl
theorem zq (o i:V):El (sV k t o) (sV k t i) (up k t h)=(El o i h).map (sV k t):=by
 induction o using V.casesOn with
 |str s=>
  show (sV k t i).int?.bind _=(i.int?.bind _).map _
  rw [cH]
  rcases i.int? with _|j
  ·rfl
  ·show (aC s j).map _=((aC s j).map _).map _;rcases aC s j with _|_<;>rfl
 |tup xs=>
  show (sV k t i).int?.bind (fun j=>aC (shs k t.length xs) j)=(i.int?.bind _).map _
  rw [cH,cm]
  rcases i.int? with _|j
  ·rfl
  ·exact mn hk _ xs j
 |ref n=>
  show (up k t h)[shN k t.length n]?.bind _=(h[n]?.bind _).map _
  rw [eI hk]
  rcases h[n]? with _|o
  ·rfl
  ·exact zr hk o i
 |_=>rfl
theorem rE (o i:V):ao k t (sV k t) (getItem o i h) (getItem (sV k t o) (sV k t i) (up k t h)):=ao.ask hk (zq hk o i)
theorem pK (n d:Nat) (v:V):fu n d (sV k t v)=fu n d v:=by unfold fu;rw [eJ,cH]
theorem tQ {α β:Type} (f:α->β) (l:List α) (lo hi:V):fU (l.map f) (sV k t lo) (sV k t hi)=(fU l lo hi).map (List.map f):=by
 unfold fU
 rw [pK hk,pK hk,on]
 rcases fu l.length 0 lo with _|a
 ·rfl
 ·rcases fu l.length l.length hi with _|b
  ·rfl
  ·show ifO _ (some (((l.map f).take b).drop a))=(ifO _ (some ((l.take b).drop a))).map _
   rw [<-List.map_take,<-List.map_drop]
   rcases decide (l.length<=100000) with _|_<;>rfl
theorem oo (o lo hi:V):ao k t (sV k t) (dp o lo hi h) (dp (sV k t o) (sV k t lo) (sV k t hi) (up k t h)):=by
 induction o using V.casesOn with
 |str s=>
  have e:=tQ hk (id:Nat->Nat) s lo hi (k:=k) (t:=t)
  rw [List.map_id] at e
  refine ao.opt (g:=id) (e.trans (congrArg (fun f=>Option.map f (fU s lo hi)) (funext fun l=>List.map_id l))) fun y=>ao.ok hk
 |ref n=>exact ao.opt (bA hk n) fun xs=>ao.opt (tQ hk _ xs lo hi) fun y=>dQ hk y
 |_=>exact trivial
theorem vy (o:V):ao k t (sV k t) (sT o h) (sT (sV k t o) (up k t h)):=
 ao.opt (bY o) fun n=>ao.opt (bA hk n) fun xs=>ao.ifr (by rw [on]) (by rw [<-List.map_reverse];exact dQ hk _)
theorem r4 (q:Key) (v:V) (es:List (Key×V)):dictSet q (sV k t v) (es.map (shK k t.length))=(dictSet q v es).map (shK k t.length):=by
 unfold dictSet
 rw [g9 hk]
 rcases es.lookup q with _|z
 ·show es.map _++[(q,sV k t v)]=(es++[(q,v)]).map _;rw [List.map_append];rfl
 ·show List.map _ (List.map _ es)=List.map _ (List.map _ es)
  rw [List.map_map,List.map_map]
  refine List.map_congr_left fun e Z=>?_
  show (if e.1=q then (e.1,sV k t v) else shK k t.length e)=shK k t.length (if e.1=q then (e.1,v) else e)
  by_cases c:e.1=q
  ·rw [if_pos c,if_pos c];rfl
  ·rw [if_neg c,if_neg c]
theorem zl (o:O) (i v:V):Ef (sO k t o) (sV k t i) (sV k t v)=(Ef o i v).map (sO k t):=by
 rcases o with xs|es|⟨c,fs⟩
 ·show (sV k t i).int?.bind _=(i.int?.bind _).map _
  rw [cH]
  rcases i.int? with _|j
  ·rfl
  ·show ifO (decide (0<=j/\j.toNat < (xs.map _).length)&&small j) (some (O.list ((xs.map _).set _ _)))=(ifO (decide (0<=j/\j.toNat < xs.length)&&small j) (some (O.list (xs.set _ _)))).map _
   rw [on,<-List.map_set]
   rcases decide (0<=j/\j.toNat < xs.length)&&small j with _|_<;>rfl
 ·show (dy (sV k t i) (es.map _)).bind _=((dy i es).bind _).map _
  rw [ip hk]
  rcases dy i es with _|q
  ·rfl
  ·show ifO (decide ((es.map _).length<=1000)) (some (O.dict (dictSet q (sV k t v) (es.map _))))=(ifO (decide (es.length<=1000)) (some (O.dict (dictSet q v es)))).map _
   rw [on,r4 hk]
   rcases decide (es.length<=1000) with _|_<;>rfl
 ·rfl
theorem yC {n:Nat} {o:O}:ao k t id (R.ok () (h.set n o)) (R.ok () ((up k t h).set (shN k t.length n) (sO k t o))):=⟨by rw [List.length_set];exact hk,by rw [xX hk]⟩
theorem ro (o i v:V):ao k t id (setItem o i v h) (setItem (sV k t o) (sV k t i) (sV k t v) (up k t h)):=
 ao.opt (bY o) fun n=>ao.opt (eI hk) fun ob=>ao.opt (zl hk ob i v) fun ob'=>yC hk
theorem jg (x:Nat) (v:V):∀fs:List (Nat×V),b4 x (sV k t v) (fs.map (shF k t.length))=(b4 x v fs).map (shF k t.length)
 |[]=>rfl
 |e::r=>by
  show (if e.1=x then (x,sV k t v)::r.map (shF k t.length) else shF k t.length e::b4 x (sV k t v) (r.map (shF k t.length)))=(if e.1=x then (x,v)::r else e::b4 x v r).map (shF k t.length)
  by_cases c:e.1=x
  ·rw [if_pos c,if_pos c];rfl
  ·rw [if_neg c,if_neg c,jg x v r];rfl
theorem ki (P:PT) (o:V) (x:Nat):ao k t (sV k t) (getAttr P o x h) (getAttr P (sV k t o) x (up k t h)):=
 ao.opt (bY o) fun n=>ao.opt (tO hk n) fun i=>ao.opt (pI hk x i.2) fun v=>ao.ifr (by rw [Fp]) (ao.ok hk)
theorem hM (P:PT) (o:V) (x:Nat) (v:V):ao k t id (setAttr P o x v h) (setAttr P (sV k t o) x (sV k t v) (up k t h)):=
 ao.opt (bY o) fun n=>ao.opt (tO hk n) fun i=>ao.ifr rfl (by
  show ao k t id _ (R.ok () ((up k t h).set _ (.inst i.1 (b4 x (sV k t v) (i.2.map (shF k t.length))))))
  rw [jg hk]
  exact yC hk)
theorem rq (ks:List (List Nat)) (vs:List V):ao k t (sV k t) (eN ks vs h) (eN ks (vs.map (sV k t)) (up k t h)):=by
 refine ao.ifr (by rw [on]) ⟨nT _ hk,?_⟩
 rw [sx hk,<-sE hk]
 show R.ok _ (_++[O.dict ((ks.map Key.s).zip (vs.map (sV k t)))])=R.ok _ (_++[O.dict (((ks.map Key.s).zip vs).map (shK k t.length))])
 rw [List.zip_map_right];rfl
end
end
section
section
variable {k:Nat} {t:H}
theorem j9 {l:List V} (e:∀v∈l,sV k t v=v):l.map (sV k t)=l:=(List.map_congr_left e).trans (List.map_id l)
theorem ml (a b:Int):(av a b).map (sV k t)=av a b:=j9 fun v hv=>by
 obtain ⟨i,_,rfl⟩:=List.mem_map.1 hv;rfl
theorem j8:∀es:List (Key×V),cW (es.map (shK k t.length))=cW es
 |[]=>rfl
 |e::r=>by
  show List.mapM _ (_::_)=List.mapM _ (_::_)
  rw [List.mapM_cons,List.mapM_cons]
  have:=j8 r
  unfold cW at this
  rw [this];rfl
theorem eV:∀{es:List (Key×V)} {l:List V},cW es=some l->l.map (sV k t)=l
 |[],l,h=>by (injection h with h;subst h);rfl
 |e::r,l,h=>by
  unfold cW at h
  rw [List.mapM_cons] at h
  obtain ⟨a,h1,h⟩:=Option.bind_eq_some_iff.1 h
  obtain ⟨b,h2,h⟩:=Option.bind_eq_some_iff.1 h
  (injection h with h;subst h)
  rw [List.map_cons,eV (es:=r) h2]
  obtain ⟨⟨_⟩|⟨_⟩,v⟩:=e<;>cases h1
  rfl
theorem v9 (o:O):sP (sO k t o)=(sP o).map (List.map (sV k t)):=by
 rcases o with xs|es|⟨c,fs⟩
 ·rfl
 ·show cW (es.map _)=(cW es).map _
  rw [j8]
  rcases e:cW es with _|l
  ·rfl
  ·exact congrArg some (eV e).symm
 ·rfl
variable {h:H} (hk:k<=h.length)
include hk
theorem pJ (v:V):items (sV k t v) (up k t h)=(items v h).map (List.map (sV k t)):=by
 induction v using V.casesOn with
 |str s=>exact congrArg some (j9 fun v hv=>by obtain ⟨i,_,rfl⟩:=List.mem_map.1 hv;rfl).symm
 |tup xs=>exact congrArg some (cm xs)
 |rng a b=>
  show ifO _ (some (av a b))=(ifO _ (some (av a b))).map _
  rcases jL a b with _|_
  ·rfl
  ·exact congrArg some (ml a b).symm
 |ref n=>
  show (up k t h)[shN k t.length n]?.bind _=(h[n]?.bind _).map _
  rw [eI hk]
  rcases h[n]? with _|o
  ·rfl
  ·exact v9 o
 |_=>rfl
theorem yc (v:V):isL (sV k t v) (up k t h)=isL v h:=by
 unfold isL
 rw [bY]
 rcases v.ref? with _|n
 ·rfl
 ·show (bv (up k t h) (shN k t.length n)).isSome=(bv h n).isSome;rw [bA hk];rcases bv h n with _|_<;>rfl
theorem mm (q:Bool) (v:V) (all:List V) (i:Nat):b5 q (sV k t v) (all.map (sV k t)) i (up k t h)=(b5 q v all i h).map (Option.map (sV k t)):=by
 unfold b5
 rw [bY]
 rcases v.ref? with _|n
 ·show some (all.map _)[i]?=some _;rw [List.getElem?_map]
 ·rcases q with _|_
  ·show (getD (up k t h) (shN k t.length n)).bind _=((getD h n).bind _).map _
   rw [tP hk]
   rcases getD h n with _|es
   ·rfl
   ·show (cW (es.map _)).bind (fun l=>ifO (oG l (all.map (sV k t))==some true) (some (all.map (sV k t))[i]?))=((cW es).bind fun l=>ifO (oG l all==some true) (some all[i]?)).map _
    rw [j8]
    rcases e:cW es with _|l
    ·rfl
    ·show ifO (oG l (all.map (sV k t))==some true) (some (all.map (sV k t))[i]?)=(ifO (oG l all==some true) (some all[i]?)).map _
     rw [show oG l (all.map (sV k t))=oG l all from by rw [<-nq (k:=k) (t:=t) l all,eV e],List.getElem?_map]
     rcases oG l all==some true with _|_<;>rfl
  ·show (bv (up k t h) (shN k t.length n)).map _=((bv h n).map _).map _
   rw [bA hk]
   rcases bv h n with _|xs
   ·rfl
   ·exact congrArg some (List.getElem?_map ..)
theorem wE (x y:Option V):qr (x.map (sV k t)) (y.map (sV k t))=(qr x y).map (Option.map (sV k t)):=by
 rcases x with _|a
 ·rfl
 ·rcases y with _|b
  ·rfl
  ·show (sV k t a).ref?.bind _=(a.ref?.bind _).map _
   rw [bY]
   rcases a.ref? with _|n
   ·rfl
   ·show (sV k t b).int?.map _=(b.int?.map _).map _
    rw [cH]
    rcases b.int? with _|_<;>rfl
theorem qZ (v u:V) (i:Nat):d6 (sV k t v) (sV k t u) i (up k t h)=(d6 v u i h).map (Option.map (sV k t)):=by
 unfold d6
 rw [bY,bY]
 rcases v.ref? with _|a
 ·rfl
 ·rcases u.ref? with _|b
  ·rfl
  ·show (bv (up k t h) (shN k t.length a)).bind _=((bv h a).bind _).map _
   rw [bA hk]
   rcases bv h a with _|xs
   ·rfl
   ·show (bv (up k t h) (shN k t.length b)).bind _=((bv h b).bind _).map _
    rw [bA hk]
    rcases bv h b with _|ys
    ·rfl
    ·show qr (xs.map _)[i]? (ys.map _)[i]?=_
     rw [List.getElem?_map,List.getElem?_map]
     exact wE hk _ _
theorem zn (id:BF) (as:List V):DV id (as.map (sV k t)) (up k t h)=(DV id as h).map (sV k t):=by
 rcases id with _|_|_|_|_|_|_
 ·show (one (as.map _)).bind _=((one as).bind _).map _;rw [eu];rcases one as with _|a
  ·rfl
  ·show (oJ (sV k t a) (up k t h)).map _=((oJ a h).map _).map _;rw [nu hk];rcases oJ a h with _|_<;>rfl
 ·show (one (as.map _)).bind _=((one as).bind _).map _;rw [eu];rcases one as with _|a
  ·rfl
  ·show (sV k t a).str?.bind _=(a.str?.bind _).map _;rw [cV];rcases a.str? with _|s
   ·rfl
   ·show (one s).map _=((one s).map _).map _;rcases one s with _|_<;>rfl
 ·show (one (as.map _)).bind _=((one as).bind _).map _;rw [eu];rcases one as with _|a
  ·rfl
  ·show (sV k t a).int?.bind _=(a.int?.bind _).map _;rw [cH];rcases a.int? with _|i
   ·rfl
   ·show ifO (decide (0<=i/\i < 128)) _=(ifO (decide (0<=i/\i < 128)) _).map _;rcases decide (0<=i/\i < 128) with _|_<;>rfl
 ·show (two (as.map _)).bind _=((two as).bind _).map _;rw [iL];rcases two as with _|p
  ·rfl
  ·show gF (sV k t p.1) (sV k t p.2) _=(gF p.1 p.2 _).map _;rw [eK hk];unfold gF;rcases p.1.int? with _|_<;>rcases p.2.int? with _|_<;>rfl
 ·show (two (as.map _)).bind _=((two as).bind _).map _;rw [iL];rcases two as with _|p
  ·rfl
  ·show gF (sV k t p.1) (sV k t p.2) _=(gF p.1 p.2 _).map _;rw [eK hk];unfold gF;rcases p.1.int? with _|_<;>rcases p.2.int? with _|_<;>rfl
 ·show (one (as.map _)).bind _=((one as).bind _).map _;rw [eu];rcases one as with _|a
  ·rfl
  ·show (sV k t a).int?.map _=(a.int?.map _).map _;rw [cH];rcases a.int? with _|_<;>rfl
 ·show (two (as.map _)).bind _=((two as).bind _).map _;rw [iL];rcases two as with _|p
  ·rfl
  ·show ifO (sV k t p.2).isTyT ((qy (sV k t p.1)).map _)=(ifO p.2.isTyT ((qy p.1).map _)).map _;rw [Cx,wJ];rcases p.2.isTyT with _|_<;>rcases qy p.1 with _|_<;>rfl
theorem qY (as:List V):nz (as.map (sV k t))=(nz as).map (sV k t):=by
 match as with
 |[]=>rfl
 |[a]=>show (sV k t a).int?.map _=(a.int?.map _).map _;rw [cH];rcases a.int? with _|_<;>rfl
 |[a,b]=>show gF (sV k t a) (sV k t b) _=(gF a b _).map _;rw [eK hk];unfold gF;rcases a.int? with _|_<;>rcases b.int? with _|_<;>rfl
 |a::b::c::r=>rfl
theorem qX (v:V):nh (sV k t v) (up k t h)=(nh v h).map (sV k t):=by
 induction v using V.casesOn with
 |ref n=>
  show (bv (up k t h) (shN k t.length n)).bind _=((bv h n).bind _).map _
  rw [bA hk]
  rcases bv h n with _|xs
  ·rfl
  ·show ifO (decide ((xs.map _).length<=100000)&&okT (xs.map _)) (some (V.tup (xs.map _)))=(ifO (decide (xs.length<=100000)&&okT xs) (some (V.tup xs))).map _
   rw [on,sD]
   rcases decide (xs.length<=100000)&&okT xs with _|_
   ·rfl
   ·exact congrArg (fun l=>some (V.tup l)) (cm xs).symm
 |_=>rfl
theorem v8 (v:V):sN (sV k t v) (up k t h)=(sN v h).map (List.map (sV k t)):=by
 induction v using V.casesOn with
 |ref n=>
  show (bv (up k t h) (shN k t.length n)).bind _=((bv h n).bind _).map _
  rw [bA hk]
  rcases bv h n with _|xs
  ·rfl
  ·show ifO (decide ((xs.map _).length<=100000)) _=(ifO (decide (xs.length<=100000)) _).map _
   rw [on]
   rcases decide (xs.length<=100000) with _|_<;>rfl
 |rng a b=>
  show ifO _ (some (av a b))=(ifO _ (some (av a b))).map _
  rcases jL a b with _|_
  ·rfl
  ·exact congrArg some (ml a b).symm
 |_=>rfl
theorem xk (T:TY) (as:List V):ao k t (sV k t) (w8 T as h) (w8 T (as.map (sV k t)) (up k t h)):=by
 rcases T with _|_|_|_|_|_
 ·exact ao.ask hk (qY hk as)
 ·refine ao.ask hk ?_
  rw [eu]
  rcases one as with _|a
  ·rfl
  ·exact qX hk a
 ·refine ao.opt (g:=List.map (sV k t)) ?_ fun xs=>dQ hk xs
  rw [eu]
  rcases one as with _|a
  ·rfl
  ·exact v8 hk a
 ·refine ao.ask hk ?_
  rw [eu]
  rcases one as with _|a
  ·rfl
  ·show (sV k t a).int?.bind _=(a.int?.bind _).map _
   rw [cH]
   rcases a.int? with _|i
   ·rfl
   ·show (iJ i).map _=((iJ i).map _).map _;rcases iJ i with _|_<;>rfl
 ·exact trivial
 ·exact trivial
end
end
section
mutual
noncomputable def V.nr:V->Bool
 |.ref _=>false
 |.tup xs=>nrs xs
 |.none=>true|.bool _=>true|.int _=>true|.str _=>true|.rng _ _=>true|.fn _=>true|.cls _=>true|.exc _=>true|.bt _=>true|.bf _=>true
noncomputable def nrs:List V->Bool
 |[]=>true
 |v::r=>v.nr&&nrs r
end
mutual
noncomputable def clE:PE->Bool
 |.none=>true|.bool _=>true|.int _=>true|.str _=>true|.loc _=>true
 |.stat v=>v.nr
 |.attr e _=>clE e
 |.call f as=>clE f&&s7 as
 |.meth o _ as=>clE o&&s7 as
 |.sub e i=>clE e&&clE i
 |.slice e lo hi=>clE e&&(clE lo&&clE hi)
 |.rev e=>clE e
 |.bin _ a b=>clE a&&clE b
 |.neg a=>clE a
 |.not a=>clE a
 |.cmp a _ b=>clE a&&clE b
 |.chain a _ b _ c=>clE a&&(clE b&&clE c)
 |.and a b=>clE a&&clE b
 |.or a b=>clE a&&clE b
 |.ite c a b=>clE c&&(clE a&&clE b)
 |.tup es=>s7 es
 |.list es=>s7 es
 |.dict _ vs=>s7 vs
 |.comp elt _ it c=>clE elt&&(clE it&&clE c)
noncomputable def s7:List PE->Bool
 |[]=>true
 |e::r=>clE e&&s7 r
end
mutual
noncomputable def clS:PS->Bool
 |.expr e=>clE e
 |.asg _ e=>clE e
 |.asgT _ e=>clE e
 |.asgD _ es=>s7 es
 |.asgA o _ e=>clE o&&clE e
 |.asgI o i e=>clE o&&(clE i&&clE e)
 |.asgTA o _ o2 _ e=>clE o&&(clE o2&&clE e)
 |.ret e=>clE e
 |.ite c a b=>clE c&&(w4 a&&w4 b)
 |.whl c b=>clE c&&w4 b
 |.for_ _ _ it b=>clE it&&w4 b
 |.forZip _ p q b=>clE p&&(clE q&&w4 b)
 |.raiseC f as=>clE f&&s7 as
 |.raiseM o _ as=>clE o&&s7 as
 |.retX f as=>clE f&&s7 as
 |.try_ b _=>w4 b
 |.cont=>true
noncomputable def w4:List PS->Bool
 |[]=>true
 |s::r=>clS s&&w4 r
end
theorem an1 {a b:Bool} (h:(a&&b)=true):a=true:=(Bool.and_eq_true_iff.1 h).1
theorem an2 {a b:Bool} (h:(a&&b)=true):b=true:=(Bool.and_eq_true_iff.1 h).2
section
variable {k:Nat} {t:H}
mutual
theorem BH:∀v:V,v.nr=true->sV k t v=v
 |.ref _,h=>nomatch h
 |.tup xs,h=>congrArg V.tup (sI xs h)
 |.none,_=>rfl|.bool _,_=>rfl|.int _,_=>rfl|.str _,_=>rfl|.rng _ _,_=>rfl|.fn _,_=>rfl|.cls _,_=>rfl|.exc _,_=>rfl|.bt _,_=>rfl|.bf _,_=>rfl
theorem sI:∀xs:List V,nrs xs=true->shs k t.length xs=xs
 |[],_=>rfl
 |v::r,h=>by
  show sV k t v::shs k t.length r=v::r
  rw [BH v (an1 h),sI r (an2 h)]
end
variable (k t) in
noncomputable abbrev sL:Loc->Loc:=List.map (shF k t.length)
variable {h:H} (hk:k<=h.length)
include hk
theorem uq (v:V):ao k t (sV k t) (vV v h) (vV (sV k t v) (up k t h)):=by
 rcases v with _|_<;>first|exact trivial|exact ao.ok hk
theorem ur {α:Type} {u:α->α} (v:V):ao k t u (yO v h) (yO (sV k t v) (up k t h)):=by
 rcases v with _|_<;>first|exact trivial|exact ⟨hk,rfl⟩
theorem tK (as:List V):((one (as.map (sV k t))).bind fun a=>a.str?.bind one)=(one as).bind fun a=>a.str?.bind one:=by
 rw [eu]
 rcases one as with _|a
 ·rfl
 ·exact congrArg (fun o=>Option.bind o one) (cV a)
theorem x6 (ws:List (List Nat)):(ws.map V.str).map (sV k t)=ws.map V.str:=j9 fun v hv=>by
 obtain ⟨i,_,rfl⟩:=List.mem_map.1 hv;rfl
theorem vx (s:List Nat) (as:List V):ao k t (sV k t) (oR s as h) (oR s (as.map (sV k t)) (up k t h)):=
 ao.opt (g:=id) ((tK hk as).trans (cI _)) fun c=>ao.ifr rfl (by
  have:=dQ hk (t:=t) ((dj s c).map V.str)
  rwa [x6 hk] at this)
theorem wG (s:List Nat) (as:List V):sf s (as.map (sV k t)) (up k t h)=(sf s as h).map (sV k t):=by
 unfold sf
 rw [eu]
 rcases one as with _|a
 ·rfl
 ·show (sV k t a).ref?.bind _=(a.ref?.bind _).map _
  rw [bY]
  rcases a.ref? with _|n
  ·rfl
  ·show (bv (up k t h) (shN k t.length n)).bind _=((bv h n).bind _).map _
   rw [bA hk]
   rcases bv h n with _|xs
   ·rfl
   ·show (bX (xs.map _)).bind _=((bX xs).bind _).map _
    rw [j7 hk]
    rcases bX xs with _|ws
    ·rfl
    ·show ifO (decide ((ws.map fun w=>w.length+s.length).sum<=100000)) _=(ifO (decide ((ws.map fun w=>w.length+s.length).sum<=100000)) _).map _;rcases decide ((ws.map fun w=>w.length+s.length).sum<=100000) with _|_<;>rfl
theorem o9 (s:List Nat) (as:List V):iw s (as.map (sV k t))=(iw s as).map (sV k t):=by
 unfold iw
 rw [iL]
 rcases two as with _|p
 ·rfl
 ·show ((sV k t p.1).str?.bind one).bind _=((p.1.str?.bind one).bind _).map _
  rw [cV]
  rcases p.1.str?.bind one with _|c
  ·rfl
  ·show (sV k t p.2).str?.bind _=(p.2.str?.bind _).map _
   rw [cV]
   rcases p.2.str? with _|w
   ·rfl
   ·show ifO (w.isEmpty&&(occ s c (s.length+1)).isEmpty) _=(ifO (w.isEmpty&&(occ s c (s.length+1)).isEmpty) _).map _;rcases w.isEmpty&&(occ s c (s.length+1)).isEmpty with _|_<;>rfl
theorem v7 (s:List Nat) (as:List V):oS s (as.map (sV k t))=(oS s as).map (sV k t):=by
 have e:=tK hk (t:=t) as
 unfold oS
 rw [eu]
 rcases one as with _|a
 ·rfl
 ·show ((sV k t a).str?.bind one).bind _=((a.str?.bind one).bind _).map _
  rw [cV]
  rcases a.str?.bind one with _|c
  ·rfl
  ·show (occ s c 1).head?.map _=((occ s c 1).head?.map _).map _;rcases (occ s c 1).head? with _|_<;>rfl
theorem rA (s:List Nat) (x:Nat) (as:List V):ao k t (sV k t) (bK s x as h) (bK s x (as.map (sV k t)) (up k t h)):=by
 unfold bK
 by_cases h4:x=4
 ·rw [if_pos h4,if_pos h4];exact vx hk s as
 ·rw [if_neg h4,if_neg h4]
  by_cases h5:x=5
  ·rw [if_pos h5,if_pos h5];exact ao.ask hk (wG hk s as)
  ·rw [if_neg h5,if_neg h5]
   by_cases h6:x=6
   ·rw [if_pos h6,if_pos h6];exact ao.ask hk (o9 hk s as)
   ·rw [if_neg h6,if_neg h6]
    by_cases h7:x=7
    ·rw [if_pos h7,if_pos h7];exact ao.ask hk (v7 hk s as)
    ·rw [if_neg h7,if_neg h7];exact trivial
theorem sU {n:Nat} {o o':O} {v v':V} (e:o'=sO k t o) (e2:v'=sV k t v):ao k t (sV k t) (R.ok v (h.set n o)) (R.ok v' ((up k t h).set (shN k t.length n) o')):=by
 subst e e2
 exact ⟨by rw [List.length_set];exact hk,by rw [xX hk]⟩
theorem rC (n:Nat) (xs:List V) (as:List V):ao k t (sV k t) (nF n xs as h) (nF (shN k t.length n) (xs.map (sV k t)) (as.map (sV k t)) (up k t h)):=
 ao.opt eu fun v=>ao.ifr (by rw [on]) (sU hk (by show O.list _=O.list _;rw [List.map_append];rfl) rfl)
theorem rB (n:Nat) (xs:List V) (as:List V):ao k t (sV k t) (nE n xs as h) (nE (shN k t.length n) (xs.map (sV k t)) (as.map (sV k t)) (up k t h)):=
 ao.opt eu fun v=>ao.opt (bY v) fun m=>ao.opt (bA hk m) fun ys=>ao.ifr (by rw [on,on];exact decide_eq_decide.2 (by rw [ne_eq,yd])) (sU hk (by show O.list _=O.list _;rw [List.map_append]) rfl)
theorem Aj (n:Nat) (xs:List V) (as:List V):ao k t (sV k t) (Ej n xs as h) (Ej (shN k t.length n) (xs.map (sV k t)) (as.map (sV k t)) (up k t h)):=
 ao.ifr (by rw [on,gY hk]) (ao.opt List.getLast?_map fun v=>sU hk (by show O.list _=O.list _;rw [List.map_dropLast]) rfl)
theorem xm (n:Nat) (xs:List V) (x:Nat) (as:List V):ao k t (sV k t) (qw n xs x as h) (qw (shN k t.length n) (xs.map (sV k t)) x (as.map (sV k t)) (up k t h)):=by
 unfold qw
 by_cases h4:x=0
 ·rw [if_pos h4,if_pos h4];exact rC hk n xs as
 ·rw [if_neg h4,if_neg h4]
  by_cases h5:x=1
  ·rw [if_pos h5,if_pos h5];exact rB hk n xs as
  ·rw [if_neg h5,if_neg h5]
   by_cases h6:x=2
   ·rw [if_pos h6,if_pos h6];exact Aj hk n xs as
   ·rw [if_neg h6,if_neg h6];exact trivial
theorem xn (es:List (Key×V)) (x:Nat) (as:List V):ao k t (sV k t) (wc es x as h) (wc (es.map (shK k t.length)) x (as.map (sV k t)) (up k t h)):=
 ao.ifr rfl (ao.opt iL fun p=>ao.opt (g:=id) ((ip hk p.1 es).trans (cI _)) fun q=>⟨hk,by
  show R.ok (((es.map (shK k t.length)).lookup q).getD (sV k t p.2)) _=_
  rw [g9 hk]
  rcases es.lookup q with _|_<;>rfl⟩)
theorem zo (P:PT) (x:Nat) (o:O):Ei P x (sO k t o)=Ei P x o:=by
 rcases o with _|_|⟨c,fs⟩
 ·rfl
 ·rfl
 ·show (P.cl.lookup c).bind _=(P.cl.lookup c).bind _
  refine congrArg (fun f=>Option.bind (P.cl.lookup c) f) (funext fun ci=>congrArg (fun f=>Option.bind (ci.meths.lookup x) f) (funext fun f=>?_))
  rw [pI hk]
  rcases fs.lookup x with _|_<;>rfl
theorem nI (P:PT) (o:V) (x:Nat):ao k t id (jt P o x h) (jt P (sV k t o) x (up k t h)):=by
 refine ao.ask hk ?_
 rw [<-cI]
 induction o using V.casesOn with
 |ref n=>
  show (up k t h)[shN k t.length n]?.bind _=h[n]?.bind _
  rw [eI hk]
  rcases h[n]? with _|o
  ·rfl
  ·exact zo hk P x o
 |_=>rfl
theorem ef:∀(xs:List Nat) (vs:List V) (ρ:Loc),aE xs (vs.map (sV k t)) (sL k t ρ)=(aE xs vs ρ).map (sL k t)
 |[],[],ρ=>rfl
 |[],_::_,_=>rfl
 |_::_,[],_=>rfl
 |x::xs,v::vs,ρ=>ef xs vs ((x,v)::ρ)
theorem tL (xs:List Nat) (q:Bool) (v:V) (ρ:Loc):oH xs q (sV k t v) (sL k t ρ)=(oH xs q v ρ).map (sL k t):=by
 rcases q with _|_
 ·show (sV k t v).tup?.bind _=(v.tup?.bind _).map _
  rw [jM]
  rcases v.tup? with _|vs
  ·rfl
  ·exact ef hk xs vs ρ
 ·show (one xs).map _=((one xs).map _).map _;rcases one xs with _|_<;>rfl
end
end
section
section
variable {k:Nat} {t:H} {P:PT} {cf:V->List V->PM V}
variable (k t) in
def CfR (cf:V->List V->PM V):Prop:=∀f as h,k<=h.length->ao k t (sV k t) (cf f as h) (cf (sV k t f) (as.map (sV k t)) (up k t h))
theorem pZ (C:CfR k t cf) (f:V) (as:List V) (h:H) (hk:k<=h.length):ao k t (sV k t) (bJ cf f as h) (bJ cf (sV k t f) (as.map (sV k t)) (up k t h)):=by
 have gen:∀f,ao k t (sV k t) ((cf f as h).bd vV) ((cf (sV k t f) (as.map (sV k t)) (up k t h)).bd vV):=fun f=>(C f as h hk).bd fun v h hk=>uq hk v
 induction f using V.casesOn with
 |bf id=>exact ao.ask hk (zn hk id as)
 |bt T=>exact xk hk T as
 |_=>exact gen _
theorem q8 (C:CfR k t cf) (m:Mth) (o:V) (x:Nat) (as:List V) (h:H) (hk:k<=h.length):ao k t (sV k t) (fJ cf m o x as h) (fJ cf m (sV k t o) x (as.map (sV k t)) (up k t h)):=by
 rcases m with f|_|_|_
 ·exact (C (.fn f) (o::as) h hk).bd fun v h hk=>uq hk v
 ·exact ao.opt (g:=id) ((cV o).trans (cI _)) fun s=>rA hk s x as
 ·exact ao.opt (bY o) fun n=>ao.opt (bA hk n) fun xs=>xm hk n xs x as
 ·exact ao.opt (bY o) fun n=>ao.opt (tP hk n) fun es=>xn hk es x as
theorem pY (C:CfR k t cf) (f:V) (as:List V) (h:H) (hk:k<=h.length):ao k t (sV k t) (gH cf f as h) (gH cf (sV k t f) (as.map (sV k t)) (up k t h)):=by
 induction f using V.casesOn with
 |fn a=>exact C (.fn a) as h hk
 |cls a=>exact C (.cls a) as h hk
 |_=>exact trivial
theorem vA (C:CfR k t cf) (m:Mth) (o:V) (as:List V) (h:H) (hk:k<=h.length):ao k t (sV k t) (fZ cf m o as h) (fZ cf m (sV k t o) (as.map (sV k t)) (up k t h)):=by
 rcases m with f|_|_|_
 ·exact C (.fn f) (o::as) h hk
 ·exact trivial
 ·exact trivial
 ·exact trivial
theorem mF {nx nx':Nat->H->Option (Option V)} {el el':V->PM (Option V)} (hn:∀i h,k<=h.length->nx' i (up k t h)=(nx i h).map (Option.map (sV k t)))
  (he:∀v h,k<=h.length->ao k t (Option.map (sV k t)) (el v h) (el' (sV k t v) (up k t h))):∀n i acc h,k<=h.length->ao k t (List.map (sV k t)) (bN nx el n i acc h) (bN nx' el' n i (acc.map (sV k t)) (up k t h))
 |0,_,_,_,_=>trivial
 |n+1,i,acc,h,hk=>ao.opt (hn i h hk) fun o=>by
  rcases o with _|v
  ·exact ao.ok hk
  ·refine (he v h hk).bd fun x h hk=>?_
   have:=mF hn he n (i+1) (xT acc x) h hk
   rw [show (xT acc x).map (sV k t)=xT (acc.map (sV k t)) (x.map (sV k t)) from by rcases x with _|_<;>first|rfl|exact List.map_append ..] at this
   exact this
theorem xl {α:Type} {u:α->α} {m m':R α} (a:ao k t u m m'):ao k t u (noExc m) (noExc m'):=by
 rcases m with ⟨x,h⟩|_|_
 ·rw [a.2];exact ⟨a.1,rfl⟩
 ·exact trivial
 ·exact trivial
theorem qz {α:Type} {u:α->α} {m m':R Bool} {a b a' b':H->R α} (x:ao k t id m m') (y:∀h,k<=h.length->ao k t u (a h) (a' (up k t h))) (z:∀h,k<=h.length->ao k t u (b h) (b' (up k t h))):ao k t u (bB m a b) (bB m' a' b'):=
 ao.bd x fun q h hk=>ao.cnd (y h hk) (z h hk)
theorem pH (x:Nat) (ρ:Loc):(sL k t ρ).lookup x=(ρ.lookup x).map (sV k t):=nt x ρ
section
variable (C:CfR k t cf)
include C
mutual
theorem aM (e:PE) (c:clE e=true) (ρ:Loc) (h:H) (hk:k<=h.length):ao k t (sV k t) (ev P cf e ρ h) (ev P cf e (sL k t ρ) (up k t h)):=
 match e with
 |.none=>ao.ok hk
 |.bool _=>ao.ok hk
 |.int _=>ao.ok hk
 |.str _=>ao.ok hk
 |.loc x=>ao.ask hk (pH x ρ)
 |.stat v=>⟨hk,congrArg (fun v=>R.ok v _) (BH v c).symm⟩
 |.attr e x=>(aM e c ρ h hk).bd fun o h hk=>ki hk P o x
 |.call f as=>(aM f (an1 c) ρ h hk).bd fun g h hk=>(ew as (an2 c) ρ h hk).bd fun vs h hk=>pZ C g vs h hk
 |.meth o x as=>(aM o (an1 c) ρ h hk).bd fun v h hk=>(nI hk P v x).bd fun m h hk=>(ew as (an2 c) ρ h hk).bd fun vs h hk=>q8 C m v x vs h hk
 |.sub e i=>(aM e (an1 c) ρ h hk).bd fun o h hk=>(aM i (an2 c) ρ h hk).bd fun q h hk=>rE hk o q
 |.slice e lo hi=>(aM e (an1 c) ρ h hk).bd fun o h hk=>(aM lo (an1 (an2 c)) ρ h hk).bd fun a h hk=>(aM hi (an2 (an2 c)) ρ h hk).bd fun b h hk=>oo hk o a b
 |.rev e=>(aM e c ρ h hk).bd fun o h hk=>vy hk o
 |.bin op a b=>(aM a (an1 c) ρ h hk).bd fun x h hk=>(aM b (an2 c) ρ h hk).bd fun y h hk=>xo hk op x y
 |.neg a=>(aM a c ρ h hk).bd fun x h hk=>ao.ask hk (by rw [cH];rcases x.int? with _|_<;>rfl)
 |.not a=>(aM a c ρ h hk).bd fun x h hk=>ao.ask hk (by rw [gk hk];rcases truthy x h with _|_<;>rfl)
 |.cmp a op b=>(aM a (an1 c) ρ h hk).bd fun x h hk=>(aM b (an2 c) ρ h hk).bd fun y h hk=>ao.ask hk (by rw [cT hk];rcases aH op x y h with _|_<;>rfl)
 |.chain a op b op2 d=>(aM a (an1 c) ρ h hk).bd fun x h hk=>(aM b (an1 (an2 c)) ρ h hk).bd fun y h hk=>ao.opt (g:=id) ((cT hk op x y).trans (cI _)) fun q=>
   ao.cnd ((aM d (an2 (an2 c)) ρ h hk).bd fun z h hk=>ao.ask hk (by rw [cT hk];rcases aH op2 y z h with _|_<;>rfl)) (ao.ok hk)
 |.and a b=>(aM a (an1 c) ρ h hk).bd fun x h hk=>ao.opt (g:=id) ((gk hk x).trans (cI _)) fun q=>ao.cnd (aM b (an2 c) ρ h hk) (ao.ok hk)
 |.or a b=>(aM a (an1 c) ρ h hk).bd fun x h hk=>ao.opt (g:=id) ((gk hk x).trans (cI _)) fun q=>ao.cnd (ao.ok hk) (aM b (an2 c) ρ h hk)
 |.ite d a b=>qz (fY d (an1 c) ρ h hk) (fun h hk=>aM a (an1 (an2 c)) ρ h hk) (fun h hk=>aM b (an2 (an2 c)) ρ h hk)
 |.tup es=>(ew es c ρ h hk).bd fun vs h hk=>ao.ifr (sD vs) ⟨hk,congrArg (fun l=>R.ok (V.tup l) _) (cm vs).symm⟩
 |.list es=>(ew es c ρ h hk).bd fun vs h hk=>kh hk vs
 |.dict ks vs=>(ew vs c ρ h hk).bd fun b h hk=>rq hk ks b
 |.comp elt x it d=>(aM it (an1 (an2 c)) ρ h hk).bd fun v h hk=>ao.opt (pJ hk v) fun xs=>(xl (mF (fun i h' hk'=>by rw [yc hk];exact mm hk' _ v xs i)
   (fun v h hk=>qz (fY d (an2 (an2 c)) ((x,v)::ρ) h hk) (fun h hk=>(aM elt (an1 c) ((x,v)::ρ) h hk).bd fun y h hk=>ao.ok (u:=Option.map (sV k t)) (a:=some y) hk) (fun h hk=>ao.ok hk)) 100000 0 [] h hk)).bd fun ys h hk=>kh hk ys
theorem fY (e:PE) (c:clE e=true) (ρ:Loc) (h:H) (hk:k<=h.length):ao k t id (evT P cf e ρ h) (evT P cf e (sL k t ρ) (up k t h)):=
 have tr:∀v h,k<=h.length->ao k t id (eB (truthy v h) h) (eB (truthy (sV k t v) (up k t h)) (up k t h)):=fun v h hk=>ao.ask hk ((gk hk v).trans (cI _))
 match e with
 |.bool _=>ao.ok hk
 |.not a=>(fY a c ρ h hk).bd fun q h hk=>ao.ok hk
 |.and a b=>qz (fY a (an1 c) ρ h hk) (fun h hk=>fY b (an2 c) ρ h hk) (fun h hk=>ao.ok hk)
 |.or a b=>qz (fY a (an1 c) ρ h hk) (fun h hk=>ao.ok hk) (fun h hk=>fY b (an2 c) ρ h hk)
 |.cmp a op b=>(aM a (an1 c) ρ h hk).bd fun x h hk=>(aM b (an2 c) ρ h hk).bd fun y h hk=>ao.ask hk ((cT hk op x y).trans (cI _))
 |.chain a op b op2 d=>(aM a (an1 c) ρ h hk).bd fun x h hk=>(aM b (an1 (an2 c)) ρ h hk).bd fun y h hk=>ao.opt (g:=id) ((cT hk op x y).trans (cI _)) fun q=>
   ao.cnd ((aM d (an2 (an2 c)) ρ h hk).bd fun z h hk=>ao.ask hk ((cT hk op2 y z).trans (cI _))) (ao.ok hk)
 |.loc x=>ao.opt (pH x ρ) fun v=>tr v h hk
 |.call f as=>(aM f (an1 c) ρ h hk).bd fun g h hk=>(ew as (an2 c) ρ h hk).bd fun vs h hk=>(pZ C g vs h hk).bd tr
 |.meth o x as=>(aM o (an1 c) ρ h hk).bd fun v h hk=>(nI hk P v x).bd fun m h hk=>(ew as (an2 c) ρ h hk).bd fun vs h hk=>(q8 C m v x vs h hk).bd tr
 |.attr e x=>(aM e c ρ h hk).bd fun o h hk=>(ki hk P o x).bd tr
 |.none=>trivial|.int _=>trivial|.str _=>trivial|.stat _=>trivial|.sub _ _=>trivial|.slice _ _ _=>trivial|.rev _=>trivial|.bin _ _ _=>trivial|.neg _=>trivial|.ite _ _ _=>trivial|.tup _=>trivial|.list _=>trivial|.dict _ _=>trivial|.comp _ _ _ _=>trivial
theorem ew (es:List PE) (c:s7 es=true) (ρ:Loc) (h:H) (hk:k<=h.length):ao k t (List.map (sV k t)) (evs P cf es ρ h) (evs P cf es (sL k t ρ) (up k t h)):=
 match es with
 |[]=>ao.ok hk
 |e::r=>(aM e (an1 c) ρ h hk).bd fun v h hk=>(ew r (an2 c) ρ h hk).bd fun vs h hk=>ao.ok hk
end
end
end
end
section
section
variable {k:Nat} {t:H} {P:PT} {cf:V->List V->PM V}
variable (k t) in
noncomputable def sFl:Fl->Fl
 |.ret v=>.ret (sV k t v)
 |.next=>.next
 |.cont=>.cont
variable (k t) in
noncomputable def sQ (q:Fl×Loc):Fl×Loc:=(sFl k t q.1,sL k t q.2)
theorem FV {m m':R (Fl×Loc)} {f f':Loc->H->R (Fl×Loc)} (a:ao k t (sQ k t) m m') (b:∀ρ h,k<=h.length->ao k t (sQ k t) (f ρ h) (f' (sL k t ρ) (up k t h))):ao k t (sQ k t) (bS m f) (bS m' f'):=
 ao.bd a fun q h hk=>by
  obtain ⟨fl,ρ⟩:=q
  rcases fl with _|v|_
  ·exact b ρ h hk
  ·exact ao.ok (u:=sQ k t) (a:=(.ret v,ρ)) hk
  ·exact ao.ok (u:=sQ k t) (a:=(.cont,ρ)) hk
theorem BW {m m':R (Fl×Loc)} {f f':Loc->H->R (Fl×Loc)} (a:ao k t (sQ k t) m m') (b:∀ρ h,k<=h.length->ao k t (sQ k t) (f ρ h) (f' (sL k t ρ) (up k t h))):ao k t (sQ k t) (bL m f) (bL m' f'):=
 ao.bd a fun q h hk=>by
  obtain ⟨fl,ρ⟩:=q
  rcases fl with _|v|_
  ·exact b ρ h hk
  ·exact ao.ok (u:=sQ k t) (a:=(.ret v,ρ)) hk
  ·exact b ρ h hk
theorem kg {c:Loc->PM Bool} {b:Loc->PM (Fl×Loc)} (hc:∀ρ h,k<=h.length->ao k t id (c ρ h) (c (sL k t ρ) (up k t h))) (hb:∀ρ h,k<=h.length->ao k t (sQ k t) (b ρ h) (b (sL k t ρ) (up k t h))):
  ∀n ρ h,k<=h.length->ao k t (sQ k t) (cZ c b n ρ h) (cZ c b n (sL k t ρ) (up k t h))
 |0,_,_,_=>trivial
 |n+1,ρ,h,hk=>qz (hc ρ h hk) (fun h hk=>BW (hb ρ h hk) fun ρ' h hk=>kg hc hb n ρ' h hk) (fun h hk=>ao.ok (u:=sQ k t) (a:=(.next,ρ)) hk)
theorem lg {nx nx':Nat->H->Option (Option V)} {st:V->Loc->Option Loc} {b:Loc->PM (Fl×Loc)} (hn:∀i h,k<=h.length->nx' i (up k t h)=(nx i h).map (Option.map (sV k t))) (hs:∀v ρ,st (sV k t v) (sL k t ρ)=(st v ρ).map (sL k t))
  (hb:∀ρ h,k<=h.length->ao k t (sQ k t) (b ρ h) (b (sL k t ρ) (up k t h))):∀n i ρ h,k<=h.length->ao k t (sQ k t) (fH nx st b n i ρ h) (fH nx' st b n i (sL k t ρ) (up k t h))
 |0,_,_,_,_=>trivial
 |n+1,i,ρ,h,hk=>ao.opt (hn i h hk) fun o=>by
  rcases o with _|v
  ·exact ao.ok (u:=sQ k t) (a:=(.next,ρ)) hk
  ·exact ao.opt (hs v ρ) fun ρ₁=>BW (hb ρ₁ h hk) fun ρ' h hk=>lg hn hs hb n (i+1) ρ' h hk
theorem vz {hs:List (Addr×List Nat)} {ρ:Loc} {m m':R (Fl×Loc)} (a:ao k t (sQ k t) m m'):ao k t (sQ k t) (caught P hs ρ m) (caught P hs (sL k t ρ) m'):=by
 rcases m with ⟨q,h⟩|⟨c,h⟩|_
 ·rw [a.2];exact ao.ok a.1
 ·rw [a.2];exact ao.opt (g:=id) (cI _) fun w=>ao.ok (u:=sQ k t) (a:=(.ret (.str w),ρ)) a.1
 ·exact trivial
variable (C:CfR k t cf) {lim:Nat}
include C
mutual
theorem FU (s:PS) (c:clS s=true) (ρ:Loc) (h:H) (hk:k<=h.length):ao k t (sQ k t) (ex P cf lim s ρ h) (ex P cf lim s (sL k t ρ) (up k t h)):=
 have nx:∀(ρ:Loc) (h:H),k<=h.length->ao k t (sQ k t) (R.ok (.next,ρ) h) (R.ok (.next,sL k t ρ) (up k t h)):=fun ρ h hk=>ao.ok (u:=sQ k t) (a:=(.next,ρ)) hk
 have rt:∀(v:V) (h:H),k<=h.length->ao k t (sQ k t) (R.ok (.ret v,ρ) h) (R.ok (.ret (sV k t v),sL k t ρ) (up k t h)):=fun v h hk=>ao.ok (u:=sQ k t) (a:=(.ret v,ρ)) hk
 match s with
 |.expr e=>(aM C e c ρ h hk).bd fun Z h hk=>nx ρ h hk
 |.asg x e=>(aM C e c ρ h hk).bd fun v h hk=>nx ((x,v)::ρ) h hk
 |.asgT xs e=>(aM C e c ρ h hk).bd fun v h hk=>ao.opt (g:=sL k t) (by
   rw [jM]
   rcases v.tup? with _|vs
   ·rfl
   ·exact ef hk xs vs ρ) fun ρ'=>nx ρ' h hk
 |.asgD xs es=>(ew C es c ρ h hk).bd fun vs h hk=>ao.opt (ef hk xs vs ρ) fun ρ'=>nx ρ' h hk
 |.asgA o x e=>(aM C e (an2 c) ρ h hk).bd fun v h hk=>(aM C o (an1 c) ρ h hk).bd fun w h hk=>(hM hk P w x v).bd fun Z h hk=>nx ρ h hk
 |.asgTA o x o2 x2 e=>(aM C e (an2 (an2 c)) ρ h hk).bd fun v h hk=>ao.opt (g:=fun p:V×V=>(sV k t p.1,sV k t p.2)) (by
   rw [jM]
   rcases v.tup? with _|vs
   ·rfl
   ·exact iL) fun p=>(aM C o (an1 c) ρ h hk).bd fun w h hk=>(hM hk P w x p.1).bd fun Z h hk=>(aM C o2 (an1 (an2 c)) ρ h hk).bd fun w2 h hk=>(hM hk P w2 x2 p.2).bd fun Z h hk=>nx ρ h hk
 |.asgI o i e=>(aM C e (an2 (an2 c)) ρ h hk).bd fun v h hk=>(aM C o (an1 c) ρ h hk).bd fun w h hk=>(aM C i (an1 (an2 c)) ρ h hk).bd fun q h hk=>(ro hk w q v).bd fun Z h hk=>nx ρ h hk
 |.ret e=>(aM C e c ρ h hk).bd fun v h hk=>rt v h hk
 |.ite d a b=>qz (fY C d (an1 c) ρ h hk) (fun h hk=>fX a (an1 (an2 c)) ρ h hk) (fun h hk=>fX b (an2 (an2 c)) ρ h hk)
 |.whl d b=>kg (fun ρ h hk=>fY C d (an1 c) ρ h hk) (fun ρ h hk=>fX b (an2 c) ρ h hk) lim ρ h hk
 |.for_ xs q it b=>(aM C it (an1 c) ρ h hk).bd fun v h hk=>ao.opt (pJ hk v) fun all=>lg (fun i h' hk'=>by rw [yc hk];exact mm hk' _ v all i) (fun v ρ=>tL hk xs q v ρ) (fun ρ h hk=>fX b (an2 c) ρ h hk) 100000 0 ρ h hk
 |.forZip xs p q b=>(aM C p (an1 c) ρ h hk).bd fun v h hk=>(aM C q (an1 (an2 c)) ρ h hk).bd fun u h hk=>lg (fun i h' hk'=>qZ hk' v u i) (fun v ρ=>tL hk xs false v ρ) (fun ρ h hk=>fX b (an2 (an2 c)) ρ h hk) 100000 0 ρ h hk
 |.raiseC f as=>(aM C f (an1 c) ρ h hk).bd fun g h hk=>(ew C as (an2 c) ρ h hk).bd fun vs h hk=>(pY C g vs h hk).bd fun v h hk=>ur hk v
 |.raiseM o x as=>(aM C o (an1 c) ρ h hk).bd fun v h hk=>(nI hk P v x).bd fun m h hk=>(ew C as (an2 c) ρ h hk).bd fun vs h hk=>(vA C m v vs h hk).bd fun v h hk=>ur hk v
 |.retX f as=>(aM C f (an1 c) ρ h hk).bd fun g h hk=>(ew C as (an2 c) ρ h hk).bd fun vs h hk=>(pY C g vs h hk).bd fun v h hk=>rt v h hk
 |.try_ b hs=>vz (fX b c ρ h hk)
 |.cont=>ao.ok (u:=sQ k t) (a:=(.cont,ρ)) hk
theorem fX (l:List PS) (c:w4 l=true) (ρ:Loc) (h:H) (hk:k<=h.length):ao k t (sQ k t) (exs P cf lim l ρ h) (exs P cf lim l (sL k t ρ) (up k t h)):=
 match l with
 |[]=>ao.ok (u:=sQ k t) (a:=(.next,ρ)) hk
 |s::r=>FV (FU s (an1 c) ρ h hk) fun ρ' h hk=>fX r (an2 c) ρ' h hk
end
end
section
variable {k:Nat} {t:H} {P:PT} {lim:Nat}
theorem jV:∀(ps:List Nat) (as ds:List V),nrs ds=true->aZ ps (as.map (sV k t)) ds=(aZ ps as ds).map (sL k t)
 |[],as,ds,_=>by
  show ifO (as.map _).isEmpty _=(ifO as.isEmpty _).map _
  rcases as with _|_<;>rfl
 |p::ps,[],ds,hd=>by
  show ifO (decide (ps.length < ds.length)) _=(ifO (decide (ps.length < ds.length)) _).map _
  rcases decide (ps.length < ds.length) with _|_
  ·rfl
  ·have e:ds.map (sV k t)=ds:=(cm ds).symm.trans (sI ds hd)
   have e2:∀j,ds.drop j=(ds.drop j).map (sV k t):=fun j=>by rw [List.map_drop,e]
   refine congrArg some (Eq.trans (congrArg (fun l=>(p::ps).zip l) (e2 _)) ?_)
   rw [List.zip_map_right];rfl
 |p::ps,a::as,ds,hd=>by
  show (aZ ps (as.map _) ds).map _=((aZ ps as ds).map _).map _
  rw [jV ps as ds hd]
  rcases aZ ps as ds with _|_<;>rfl
theorem re {β:Type} {p:Nat×β->Bool} {l:List (Nat×β)} (hp:l.all p=true) {a:Nat} {b:β} (h:l.lookup a=some b):∃c,p (c,b)=true:=by
 induction l with
 |nil=>injection h
 |cons e r ih=>
  rw [List.all_cons] at hp
  rw [so] at h
  rcases q:a==e.1 with _|_
  ·rw [q] at h;exact ih (an2 hp) h
  ·rw [q] at h;(injection h with h;subst h);exact ⟨e.1,an1 hp⟩
noncomputable def clP (P:PT):Bool:=P.fn.all fun e=>w4 e.2.body&&nrs e.2.dflts
theorem frame (hP:clP P=true):∀n,CfR k t (a9 P lim n)
 |0=>fun Z Z Z Z=>trivial
 |n+1=>fun f as h hk=>by
  have C:=frame hP n
  have rv:∀(q:Fl×Loc) h,k<=h.length->ao k t (sV k t) (qp q h) (qp (sQ k t q) (up k t h)):=fun q h hk=>by
   obtain ⟨fl,ρ⟩:=q
   rcases fl with _|_<;>first|exact trivial|exact ao.ok hk|exact ao.ok (u:=sV k t) (a:=.none) hk
  have fn:∀a as h,k<=h.length->ao k t (sV k t) (bq (P.fn.lookup a) fun fi=>bq (aZ fi.params as fi.dflts) fun ρ=>(exs P (a9 P lim n) lim fi.body ρ h).bd qp)
    (bq (P.fn.lookup a) fun fi=>bq (aZ fi.params (as.map (sV k t)) fi.dflts) fun ρ=>(exs P (a9 P lim n) lim fi.body ρ (up k t h)).bd qp):=fun a as h hk=>by
   rcases e:P.fn.lookup a with _|fi
   ·exact trivial
   ·obtain ⟨_,q⟩:=re hP e
    show ao k t (sV k t) (bq (aZ fi.params as fi.dflts) fun ρ=>(exs P (a9 P lim n) lim fi.body ρ h).bd qp) (bq (aZ fi.params (as.map (sV k t)) fi.dflts) fun ρ=>(exs P (a9 P lim n) lim fi.body ρ (up k t h)).bd qp)
    exact ao.opt (jV _ as _ (an2 q)) fun ρ=>(fX C _ (an1 q) ρ h hk).bd rv
  induction f using V.casesOn with
  |fn a=>exact fn a as h hk
  |cls c=>
   refine ao.opt (g:=id) (cI (P.cl.lookup c)) fun ci=>?_
   show ao k t (sV k t) (match ci.exc with|true=>_|false=>_) (match ci.exc with|true=>_|false=>_)
   rcases ci.exc with _|_
   rotate_left
   ·exact ao.ifr (by
     rcases as with _|⟨v,r⟩
     ·rfl
     ·show ((sV k t v).isStr&&decide ((r.map _).length<=1))=_;rw [wK,on];rfl) (ao.ok (u:=sV k t) (a:=.exc c) hk)
   ·have q:=C (.fn ci.init) (.ref h.length::as) (h++[.inst c []]) (nT _ hk)
    rw [sx hk] at q
    have ql:sV k t (.ref h.length)=.ref (up k t h).length:=congrArg V.ref (sE hk)
    rw [List.map_cons,ql] at q
    exact ao.bd q fun v h' hk'=>ao.ifr (eJ v) ⟨hk',congrArg (fun v=>R.ok v _) ql.symm⟩
  |_=>exact trivial
end
end
section
def Ex (h h':H):Prop:=∀(j:Nat) (o:O),h[j]?=some o->h'[j]?=some o
theorem Ex.refl {h:H}:Ex h h:=fun Z Z e=>e
theorem Ex.trans {h h1 h2:H} (a:Ex h h1) (b:Ex h1 h2):Ex h h2:=fun j o e=>b j o (a j o e)
theorem Ex.app {h g:H}:Ex h (h++g):=fun Z Z e=>ax e
theorem Ex.len {h h':H} (a:Ex h h'):h.length<=h'.length:=by
 by_cases hc:h.length<=h'.length
 ·exact hc
 ·exfalso
  have h1:h[h'.length]?=some h[h'.length]:=HJ (by omega)
  have:=bF (a _ _ h1);omega
theorem mK {α:Type} {f:α->V} {nx:Nat->H->Option (Option V)} {el:V->PM (Option V)} {xs:List α} {g:α->Option V} {I:H->Prop}
  (hn:∀i h,I h->nx i h=some (xs.map f)[i]?) (he:∀v∈xs,∀h,I h->∃h',el (f v) h=.ok (g v) h'/\I h'):
  ∀m i acc h,xs.length<=m+i->I h->∃h',bN nx el (m+1) i acc h=.ok (acc++(xs.drop i).filterMap g) h'/\I h':=by
 intro m
 induction m with
 |zero=>
  intro i acc h hl hI
  refine ⟨h,?_,hI⟩
  rw [gT ((hn i h hI).trans (by rw [HQ (by simp;omega)])),HR (by omega)]
  simp
 |succ m ih=>
  intro i acc h hl hI
  by_cases hi:i < xs.length
  ·obtain ⟨h',e,hI'⟩:=he xs[i] (List.getElem_mem hi) h hI
   obtain ⟨h'',e2,hI''⟩:=ih (i+1) (xT acc (g xs[i])) h' (by omega) hI'
   refine ⟨h'',?_,hI''⟩
   refine lh ((hn i h hI).trans (by rw [List.getElem?_map,HJ hi];rfl)) e (e2.trans ?_)
   rw [List.drop_eq_getElem_cons hi,List.filterMap_cons]
   rcases g xs[i] with _|y
   ·rfl
   ·exact congrArg (fun l=>R.ok l h'') (HT ..)
  ·refine ⟨h,?_,hI⟩
   rw [gT ((hn i h hI).trans (by rw [HQ (by simp;omega)]))]
   rw [HR (by omega)]
   simp
theorem fE {α β:Type} (f:α->β) (l:List α):l.filterMap (fun y=>some (f y))=l.map f:=by
 induction l with
 |nil=>rfl
 |cons x r ih=>rw [List.filterMap_cons,ih];rfl
inductive It where
 |G|T|A|U|B|H|X
 deriving DecidableEq
noncomputable def nm:It->List Nat
 |.G=>[71]|.T=>[84]|.A=>[65]|.U=>[85]|.B=>[66]|.H=>[72]|.X=>[65]
noncomputable def wg:It->Bool
 |.T=>true|.U=>true|_=>false
noncomputable def et:It->List It
 |.T=>[.T]|.A=>[.T]|.U=>[.T,.U]|.B=>[.T,.U]|_=>[]
structure Hd where
 ws:List (List Nat)
 who:List Nat
 many:Nat
 name:List Nat
 ql:List (Bool×List Nat)
 it:Option It
noncomputable def Hd.txt (H:Hd):List Nat:=cF [32] H.ws
noncomputable def HL:List Hd:=[
 ⟨[[65],[79,70],[84]],[65],1,[65],[(true,[84])],some .A⟩,
 ⟨[[65],[73,78],[71]],[65],1,[65],[(false,[71])],some .A⟩,
 ⟨[[65],[79,70],[72]],[72,65],0,[65],[(true,[72])],some .X⟩,
 ⟨[[66]],[66],2,[66],[],some .B⟩,
 ⟨[[98],[111,102],[85],[105,110],[84],[111,102],[71]],[66],2,[66],[(true,[85]),(false,[84]),(true,[71])],some .B⟩,
 ⟨[[85]],[85],2,[85],[],some .U⟩,
 ⟨[[84],[73,78],[71]],[84],1,[84],[(false,[71])],some .T⟩,
 ⟨[[71]],[71],0,[71],[],some .G⟩,
 ⟨[[65],[73,78],[70]],[72,65],0,[65],[(false,[70])],some .X⟩,
 ⟨[[72],[79,70],[70]],[72],0,[72],[(true,[70])],some .H⟩,
 ⟨[[65]],[],0,[65],[],none⟩,
 ⟨[[66],[79,70],[72]],[],2,[66],[(true,[72])],none⟩,
 ⟨[[65],[79,70],[71],[79,70],[84]],[],1,[65],[(true,[71]),(true,[84])],none⟩,
 ⟨[[85,45,49]],[],0,[85,45,49],[],none⟩]
noncomputable def adI:It->Nat
 |.G=>11|.T=>14|.A=>18|.U=>21|.B=>25|.H=>28|.X=>31
noncomputable def ocI:It->Nat
 |.T=>17|_=>24
structure DAd where
 (d:Nat)
 (ad oc:It->Nat)
noncomputable def DAd.rf (D:DAd) (x:It):V:=.ref (D.ad x)
noncomputable def D0:DAd:=⟨4,adI,ocI⟩
noncomputable def itF (w:List Nat) (oc:V) (a b:Nat) (par:V) (o z:Int):List (Nat×V):=[(18,.int 1),(19,.str w),(20,.none),(21,.str []),(22,.str []),(23,.bool false),(24,oc),(25,.str []),(26,.none),(27,.bool false),(28,.bool false),(29,.ref a),(30,.ref b),(31,par),(32,.none),(33,.str []),(34,.int o),(35,.int z),(36,.none)]
noncomputable def ocF (n:Int):List (Nat×V):=[(13,.int n),(14,.int n),(15,.none),(16,.tup []),(17,.tup [])]
noncomputable def Bs (o0 o1 o2:O) (off size high:It->Int):H:=[o0,o1,o2,.dict [(.s [84],.int (high .T)),(.s [85],.int (high .U))],
 .inst 198 [(44,.ref 34),(45,.ref 6),(46,.ref 36),(47,.ref 8),(35,.int 0),(17,.ref 9)],.list [],.list [],.dict [],.list [],.dict [],
 .dict [(.s [71],.ref 11),(.s [84],.ref 14),(.s [65],.ref 18),(.s [85],.ref 21),(.s [66],.ref 25),(.s [72],.ref 28),(.s [72,65],.ref 31)],
 .inst 172 (itF [71] .none 12 13 .none (off .G) (size .G)),.list [],.list [.ref 14],
 .inst 172 (itF [84] (.ref 17) 15 16 (.ref 11) (off .T) (size .T)),.list [],.list [.ref 18,.ref 21],.inst 125 (ocF (high .T)),
 .inst 172 (itF [65] .none 19 20 (.ref 14) (off .A) (size .A)),.list [],.list [],
 .inst 172 (itF [85] (.ref 24) 22 23 (.ref 14) (off .U) (size .U)),.list [],.list [.ref 25],.inst 125 (ocF (high .U)),
 .inst 172 (itF [66] .none 26 27 (.ref 21) (off .B) (size .B)),.list [],.list [],
 .inst 172 (itF [72] .none 29 30 .none (off .H) (size .H)),.list [],.list [.ref 31],
 .inst 172 (itF [65] .none 32 33 (.ref 28) (off .X) (size .X)),.list [],.list [],
 .list [.ref 11],.list [.ref 28],.dict [(.s [70],.ref 35)]]
noncomputable def Eh:R V->R V
 |.ok v h=>.ok v (h.take 37)
 |.exc c h=>.exc c (h.take 37)
 |.bad=>.bad
noncomputable def BI:R V->R V
 |.ok v h=>(match v.ref?.bind (bv h) with
  |some l=>.ok (.tup l) (h.take 37)
  |none=>.bad)
 |_=>.bad
def Fix (o:O):Prop:=∀d,O.sh 37 d o=o
section
variable {g:H}
theorem ng {B h:H} (hB:B.length=37) (fB:∀d,B.map (O.sh 37 d)=B) (e:h.take 37=B):∃r,up 37 g h=B++g++r:=⟨_,by unfold up;rw [e,fB]⟩
theorem n9 {B:H} (hB:B.length=37) (fB:∀d,B.map (O.sh 37 d)=B):up 37 g B=B++g:=by
 unfold up
 rw [List.take_of_length_le (Nat.le_of_eq hB),List.drop_of_length_le (Nat.le_of_eq hB),fB]
 exact th _
theorem pn:clP PT0=true:=by kernel_rfl
variable {n:Nat} {f v:V} {as:List V} {B:H} (hB:B.length=37) (fB:∀d,B.map (O.sh 37 d)=B) (ff:∀d,V.sh 37 d f=f) (fa:∀d,as.map (V.sh 37 d)=as)
include hB fB ff fa
theorem xK (e:Eh (a9 PT0 1000 n f as B)=.ok v B) (fv:∀d,V.sh 37 d v=v):∃h',a9 PT0 1000 n f as (B++g)=.ok v h'/\Ex (B++g) h':=by
 have F:=frame (k:=37) (t:=g) (lim:=1000) pn n f as B (Nat.le_of_eq hB.symm)
 rw [n9 hB fB,show sV 37 g f=f from ff _,show as.map (sV 37 g)=as from fa _] at F
 rcases q:a9 PT0 1000 n f as B with ⟨w,h1⟩|⟨c,h1⟩|_
 ·rw [q] at e F
  injection e with e1 e2
  obtain ⟨r,er⟩:=ng (g:=g) hB fB e2
  exact ⟨_,F.2.trans (congrArg (R.ok · _) ((congrArg (sV 37 g) e1).trans (fv _))),er▸Ex.app⟩
 ·rw [q] at e;injection e
 ·rw [q] at e;injection e
theorem rP {c:Addr} (e:Eh (a9 PT0 1000 n f as B)=.exc c B):∃h',a9 PT0 1000 n f as (B++g)=.exc c h'/\Ex (B++g) h':=by
 have F:=frame (k:=37) (t:=g) (lim:=1000) pn n f as B (Nat.le_of_eq hB.symm)
 rw [n9 hB fB,show sV 37 g f=f from ff _,show as.map (sV 37 g)=as from fa _] at F
 rcases q:a9 PT0 1000 n f as B with ⟨v,h1⟩|⟨w,h1⟩|_
 ·rw [q] at e;injection e
 ·rw [q] at e F
  injection e with e1 e2
  obtain ⟨r,er⟩:=ng (g:=g) hB fB e2
  exact ⟨_,F.2.trans (congrArg (R.exc · _) e1),er▸Ex.app⟩
 ·rw [q] at e;injection e
theorem rQ {l:List V} (e:BI (a9 PT0 1000 n f as B)=.ok (.tup l) B) (fl:∀d,l.map (V.sh 37 d)=l):∃h' q,a9 PT0 1000 n f as (B++g)=.ok (.ref q) h'/\h'[q]?=some (.list l)/\Ex (B++g) h':=by
 have F:=frame (k:=37) (t:=g) (lim:=1000) pn n f as B (Nat.le_of_eq hB.symm)
 rw [n9 hB fB,show sV 37 g f=f from ff _,show as.map (sV 37 g)=as from fa _] at F
 rcases q:a9 PT0 1000 n f as B with ⟨w,h1⟩|⟨c,h1⟩|_
 ·rw [q] at e F
  induction w using V.casesOn with
  |ref a=>
   have e:(match bv h1 a with|some l=>R.ok (V.tup l) (h1.take 37)|none=>.bad)=R.ok (V.tup l) B:=e
   rcases ga:bv h1 a with _|l'
   ·rw [ga] at e;injection e
   ·rw [ga] at e
    injection e with e1 e2
    injection e1 with e1
    subst e1
    obtain ⟨r,er⟩:=ng (g:=g) hB fB e2
    refine ⟨_,_,F.2,?_,er▸Ex.app⟩
    have gl:=bA F.1 a (t:=g)
    rw [ga] at gl
    obtain ⟨o,g1,g2⟩:=Option.bind_eq_some_iff.1 gl
    rw [g1]
    rcases o with xs|_|_
    ·injection g2 with g2;exact congrArg (fun l=>some (O.list l)) (g2.trans (fl _))
    ·injection g2
    ·injection g2
  |_=>injection e
 ·rw [q] at e;injection e
 ·rw [q] at e;injection e
end
end
section
structure DH (D:DAd) (off size high:It->Int) (h:H):Prop where
 eqD:D=D0
 form:∃o0 o1 o2 g,Fix o0/\Fix o1/\Fix o2/\h=Bs o0 o1 o2 off size high++g
theorem tv {o0 o1 o2:O} {off size high:It->Int} (f0:Fix o0) (f1:Fix o1) (f2:Fix o2) (d:Nat):(Bs o0 o1 o2 off size high).map (O.sh 37 d)=Bs o0 o1 o2 off size high:=
 (congrArg (·::_) (f0 d)).trans (congrArg (o0::·) ((congrArg (·::_) (f1 d)).trans (congrArg (o1::·) ((congrArg (·::_) (f2 d)).trans (congrArg (o2::·) (by kernel_rfl))))))
theorem yD {B g h:H} (X:Ex (B++g) h):∃g',h=B++g':=by
 refine ⟨h.drop B.length,?_⟩
 have e:h.take B.length=B:=List.ext_getElem? fun j=>by
  by_cases q:j < B.length
  ·have b:B[j]?=some B[j]:=HJ q
   rw [List.getElem?_take_of_lt q,b]
   exact X j _ ((HK q).trans b)
  ·rw [HQ (Nat.le_of_not_lt q),HQ (HN (List.length_take_le ..) (Nat.le_of_not_lt q))]
 conv=>lhs;rw [<-List.take_append_drop B.length h,e]
section
variable {D:DAd} {off size high:It->Int} {h h':H}
theorem DH.keep (S:DH D off size high h) (X:Ex h h'):DH D off size high h':=by
 obtain ⟨e,o0,o1,o2,g,f0,f1,f2,rfl⟩:=S
 obtain ⟨g',e'⟩:=yD X
 exact ⟨e,o0,o1,o2,g',f0,f1,f2,e'⟩
theorem DH.it (S:DH D off size high h) (x:It):∃fs,h[D.ad x]?=some (.inst 172 fs)/\fs.lookup 19=some (.str (nm x))/\fs.lookup 24=some (if wg x then V.ref (D.oc x) else .none)/\fs.lookup 34=some (.int (off x))/\fs.lookup 35=some (.int (size x)):=by
 obtain ⟨rfl,o0,o1,o2,g,-,-,-,rfl⟩:=S
 rcases x with _|_<;>exact ⟨_,rfl,rfl,rfl,rfl,rfl⟩
theorem DH.oc (S:DH D off size high h) (x:It) (hx:wg x=true):∃fs,h[D.oc x]?=some (.inst 125 fs)/\fs.lookup 14=some (.int (high x)):=by
 obtain ⟨rfl,o0,o1,o2,g,-,-,-,rfl⟩:=S
 rcases x with _|_<;>first|exact ⟨_,rfl,rfl⟩|injection hx
def jR (w:List Nat) (qs:List (List Nat)) (it:Option It):Prop:=∀n o0 o1 o2 off size high,Eh (a9 PT0 1000 (n+5) (.fn 321) [.ref 4,.str w,.tup (qs.map .str)] (Bs o0 o1 o2 off size high))=match it with
 |some x=>.ok (.ref (adI x)) (Bs o0 o1 o2 off size high)
 |none=>.exc 84 (Bs o0 o1 o2 off size high)
theorem Ap:∀X∈HL,jR X.name (X.ql.map (·.2)) X.it:=by
 unfold HL
 repeat' (first|exact fun X h=>absurd h List.not_mem_nil|refine List.forall_mem_cons.2 ⟨?_,?_⟩)
 all_goals (intro n o0 o1 o2 off size high;kernel_rfl)
theorem uu (w:List Nat) (qs:List (List Nat)) (d:Nat):[V.ref 4,.str w,.tup (qs.map .str)].map (V.sh 37 d)=[V.ref 4,.str w,.tup (qs.map .str)]:=
 congrArg (fun l=>[V.ref 4,.str w,.tup l]) ((cm _).trans (List.map_map.trans rfl))
theorem An {n:Nat} {x:It} {w:List Nat} {qs:List (List Nat)} (S:DH D off size high h) (F:jR w qs (some x)):
  ∃h',a9 PT0 1000 (n+5) (.fn 321) [.ref D.d,.str w,.tup (qs.map .str)] h=.ok (D.rf x) h'/\Ex h h':=by
 obtain ⟨rfl,o0,o1,o2,g,f0,f1,f2,rfl⟩:=S
 exact xK rfl (tv f0 f1 f2) (fun Z=>rfl) (uu w qs) (F n o0 o1 o2 off size high) (fun d=>by rcases x with _|_<;>rfl)
theorem Ao {n:Nat} {w:List Nat} {qs:List (List Nat)} (S:DH D off size high h) (F:jR w qs none):
  ∃h',a9 PT0 1000 (n+5) (.fn 321) [.ref D.d,.str w,.tup (qs.map .str)] h=.exc 84 h'/\Ex h h':=by
 obtain ⟨rfl,o0,o1,o2,g,f0,f1,f2,rfl⟩:=S
 exact rP rfl (tv f0 f1 f2) (fun Z=>rfl) (uu w qs) (F n o0 o1 o2 off size high)
theorem wy (x:It) (n:Nat) (o0 o1 o2:O) (off size high:It->Int):BI (a9 PT0 1000 (n+2) (.fn 247) [.ref (adI x)] (Bs o0 o1 o2 off size high))=.ok (.tup ((et x).map fun y=>.ref (adI y))) (Bs o0 o1 o2 off size high):=by
 rcases x with _|_<;>kernel_rfl
theorem za {n:Nat} {x:It} (S:DH D off size high h):∃h' q,a9 PT0 1000 (n+2) (.fn 247) [D.rf x] h=.ok (.ref q) h'/\h'[q]?=some (.list ((et x).map D.rf))/\Ex h h':=by
 obtain ⟨rfl,o0,o1,o2,g,f0,f1,f2,rfl⟩:=S
 exact rQ rfl (tv f0 f1 f2) (fun Z=>rfl) (fun d=>by rcases x with _|_<;>rfl) (wy x n o0 o1 o2 off size high) (fun d=>by rcases x with _|_<;>rfl)
end
end
section
noncomputable def lH (size high:It->Int):List It->List Int->Int->Option Int
 |t::ts,k::ks,o=>if 1<=k/\k<=high t then lH size high ts ks (o+(k - 1)*size t) else none
 |_,_,o=>some o
noncomputable def lC (sz o:Int):Option (Int×Option Int)->Option (Int×Int)
 |none=>some (o,sz)
 |some (b,l)=>if b < 1\/l.getD (sz - b+1) < 1\/sz < b+l.getD (sz - b+1) - 1 then none else some (o+b - 1,l.getD (sz - b+1))
noncomputable def cO (off size high:It->Int) (x:It) (xs:List Int) (p:Option (Int×Option Int)):Option (Int×Int):=
 if xs.length=(et x).length then (lH size high (et x) xs (off x)).bind fun o=>lC (size x) o p else none
noncomputable def GQ:Option Int->V
 |none=>.none
 |some i=>.int i
noncomputable def qu:Option (Int×Option Int)->V
 |none=>.none
 |some (b,l)=>.tup [.int b,GQ l]
theorem kU (x:It):(et x).length<=2:=by rcases x with _|_<;>decide
theorem wx (x y:It) (h:y∈et x):wg y=true:=by revert h;rcases x with _|_<;>rcases y with _|_<;>decide
theorem yj {a b i n:Nat} {k:Int} {xs ys:List V} {h:H} (g:h[a]?=some (.list xs)) (g2:h[b]?=some (.list ys)) (e1:xs[i]?=some (.ref n)) (e2:ys[i]?=some (.int k)):d6 (.ref a) (.ref b) i h=some (some (.tup [.ref n,.int k])):=by
 show (bv h a).bind _=_
 rw [g_L g]
 show (bv h b).bind _=_
 rw [g_L g2]
 show qr xs[i]? ys[i]?=_
 rw [e1,e2];rfl
theorem r8 {a b i:Nat} {xs ys:List V} {h:H} (g:h[a]?=some (.list xs)) (g2:h[b]?=some (.list ys)) (e1:xs[i]?=none):d6 (.ref a) (.ref b) i h=some none:=by
 show (bv h a).bind _=_
 rw [g_L g]
 show (bv h b).bind _=_
 rw [g_L g2]
 show qr xs[i]? ys[i]?=_
 rw [e1];rfl
theorem ym (x:It):(nm x).length=1:=by rcases x with _|_<;>rfl
section
variable {D:DAd} {off size high:It->Int}
theorem Ca {n q ls:Nat} {x:It} {p:V} {xs:List Int} {h:H} (S:DH D off size high h) (g1:h[q]?=some (.list ((et x).map D.rf))) (hl:h[ls]?=some (.list (xs.map .int))) (hb:∀k∈xs,0<=k/\k<=1000) (hz:∀y,0<=size y/\size y<=1000000) (he:xs.length=(et x).length):
  ∃r,ex PT0 (a9 PT0 1000 (n+2)) 1000 (.forZip [82,83] (.loc 81) (.loc 69) iV) [(34,.int (off x)),(81,.ref q),(48,D.rf x),(69,.ref ls),(70,p)] h=r/\
   match lH size high (et x) xs (off x) with
   |none=>r=.exc 96 h
   |some o=>∃ρ',r=.ok (.next,ρ') h/\ρ'.lookup 34=some (.int o)/\ρ'.lookup 48=some (D.rf x)/\ρ'.lookup 70=some p:=by
 obtain ⟨fsx,y1,y2,-⟩:=S.it x
 let J:Nat->Loc->H->Prop:=fun i ρ h'=>h'=h/\∃o:Int,i<=xs.length/\ρ.lookup 34=some (.int o)/\ρ.lookup 48=some (.ref (D.ad x))/\ρ.lookup 70=some p/\lH size high ((et x).drop i) (xs.drop i) o=lH size high (et x) xs (off x)
 let Q:R (Fl×Loc)->Prop:=fun r=>match lH size high (et x) xs (off x) with
   |none=>r=.exc 96 h
   |some o=>∃ρ',r=.ok (.next,ρ') h/\ρ'.lookup 34=some (.int o)/\ρ'.lookup 48=some (D.rf x)/\ρ'.lookup 70=some p
 obtain ⟨r,er,hr⟩:=ut (J:=J) (Q:=Q) (L:=xs.length) (nx:=d6 (.ref q) (.ref ls)) (st:=oH [82,83] false) (b:=exs PT0 (a9 PT0 1000 (n+2)) 1000 iV) (by
  rintro i ρ h' ⟨rfl,o,hi,r34,r48,r70,ho⟩
  by_cases hi2:i < xs.length
  ·obtain ⟨k,hk⟩:∃k,xs[i]?=some k:=⟨_,HJ hi2⟩
   obtain ⟨t,ht⟩:∃t,(et x)[i]?=some t:=⟨_,HJ (by omega)⟩
   have hdr:xs.drop i=k::xs.drop (i+1):=by rw [List.drop_eq_getElem_cons hi2];rw [HJ hi2] at hk;(injection hk with hk;subst hk);rfl
   have hdt:(et x).drop i=t::(et x).drop (i+1):=by rw [List.drop_eq_getElem_cons (by omega)];rw [HJ (by omega)] at ht;(injection ht with ht;subst ht);rfl
   have hm:wg t=true:=wx x t (we ht)
   have hkb:=hb k (we hk)
   have hzt:=hz t
   have e1:((et x).map D.rf)[i]?=some (.ref (D.ad t)):=by rw [List.getElem?_map,ht];rfl
   have e2:(xs.map V.int)[i]?=some (.int k):=by rw [List.getElem?_map,hk];rfl
   obtain ⟨fst,t1,-,t2,-,t3⟩:=S.it t
   obtain ⟨fso,o1,o2⟩:=S.oc t hm
   rw [if_pos hm] at t2
   rw [hdr,hdt] at ho
   have ho:(if 1<=k/\k<=high t then lH size high ((et x).drop (i+1)) (xs.drop (i+1)) (o+(k - 1)*size t) else none)=lH size high (et x) xs (off x):=ho
   let ρ1:Loc:=(83,.int k)::(82,.ref (D.ad t))::ρ
   by_cases c:1<=k/\k<=high t
   ·rw [if_pos c] at ho
    have c1:=c.1
    have c2:decide (k<=high t)=true:=decide_eq_true c.2
    exact .next _ ρ1 ((34,.int (o+(k - 1)*size t))::ρ1) h' (yj g1 hl e1 e2) rfl (by delta iV;exact HZ) hi2 ⟨rfl,_,by omega,bZ,by exact I0,by exact I0,ho⟩
   ·rw [if_neg c] at ho
    have ex:=l5 (P:=PT0) (lim:=1000) (n:=n+1) (c:=96) (as:=[.str ([97,32,115,117,98,115,99,114,105,112,116,32,98,101,121,111,110,100,32,105,116,115,32,116,97,98,108,101,58,32]++nm x)]) (h:=h') rfl rfl rfl
    have ll:([97,32,115,117,98,115,99,114,105,112,116,32,98,101,121,111,110,100,32,105,116,115,32,116,97,98,108,101,58,32]:List Nat).length+(nm x).length<=100000:=by rw [ym];simp
    refine .exc 96 _ ρ1 h' (yj g1 hl e1 e2) rfl ?_ (by simp only [Q];rw [<-ho];trivial)
    delta iV
    by_cases c1:1<=k
    ·have c2:decide (k<=high t)=false:=decide_eq_false fun q=>c ⟨c1,q⟩
     exact HZ
    ·exact HZ
  ·rw [HR (by omega),HR (by omega)] at ho
   have ho:some o=lH size high (et x) xs (off x):=ho
   refine .stop ?_ ?_
   ·exact r8 g1 hl (HQ (by simp;omega))
   ·simp only [Q]
    rw [<-ho]
    exact ⟨ρ,rfl,r34,r48,r70⟩) 99999 0 [(34,.int (off x)),(81,.ref q),(48,D.rf x),(69,.ref ls),(70,p)] h (by have:=kU x;omega) ⟨rfl,off x,by omega,rfl,rfl,rfl,rfl⟩
 refine ⟨r,?_,hr⟩
 refine Bw (h1:=h) (h2:=h) (v:=.ref q) (v':=.ref ls) ?_ ?_ er<;>exact HZ
noncomputable def DT:Option (Int×Int)->H->R V
 |some (o,z),h=>.ok (.tup [.int o,.int z]) h
 |none,h=>.exc 96 h
theorem qP {n ls:Nat} {x:It} {p:Option (Int×Option Int)} {xs:List Int} {h:H} (S:DH D off size high h) (hl:h[ls]?=some (.list (xs.map .int))) (hb:∀k∈xs,0<=k/\k<=1000) (hz:∀y,0<=size y/\size y<=1000000) (h5:xs.length<=1000):
  ∃h',a9 PT0 1000 (n+3) (.fn 328) [D.rf x,.ref ls,qu p] h=DT (cO off size high x xs p) h'/\Ex h h':=by
 obtain ⟨h1,q,e1,g1,X1⟩:=za (n:=n) (x:=x) S
 have S1:=S.keep X1
 have hl1:=X1 _ _ hl
 have tl:=kU x
 have ll1:(xs.map V.int).length<=100000:=by rw [on];omega
 have ll2:((et x).map D.rf).length<=100000:=by rw [on];omega
 obtain ⟨fsx,x1,x2,-,x3,x4⟩:=S1.it x
 refine ⟨h1,af rfl rfl ?_,X1⟩
 unfold cO
 have ex (m:List Nat):=l5 (P:=PT0) (lim:=1000) (n:=n+1) (c:=96) (as:=[.str m]) (h:=h1) rfl rfl rfl
 have nl:=ym x
 by_cases he:xs.length=(et x).length
 ·rw [if_pos he]
  have c:(((xs.map V.int).length:Int)==(((et x).map D.rf).length:Int))=true:=by rw [on,on];exact BU (by omega)
  obtain ⟨r,er,hr⟩:=Ca (n:=n) (p:=qu p) S1 g1 hl1 hb hz he
  revert hr
  rcases lH size high (et x) xs (off x) with _|o
  ·rintro rfl
   unfold DAd.rf at e1 er⊢
   delta Bp
   show _=R.exc 96 h1
   exact HZ
  ·rintro ⟨ρ',rfl,r34,r48,r70⟩
   unfold DAd.rf at e1 er r48⊢
   delta Bp
   have ll3:([97,32,112,97,114,116,32,98,101,121,111,110,100,32,105,116,115,32,105,116,101,109,58,32]:List Nat).length+(nm x).length<=100000:=by rw [nl];simp
   have ex:=ex ([97,32,112,97,114,116,32,98,101,121,111,110,100,32,105,116,115,32,105,116,101,109,58,32]++nm x)
   rcases p with _|⟨b,l⟩
   ·have r70:ρ'.lookup 70=some .none:=r70
    show _=R.ok (V.tup [V.int o,V.int (size x)]) h1
    exact HZ
   ·have r70:ρ'.lookup 70=some (.tup [.int b,GQ l]):=r70
    show _=DT (if b < 1\/l.getD (size x - b+1) < 1\/size x < b+l.getD (size x - b+1) - 1 then none else some (o+b - 1,l.getD (size x - b+1))) h1
    rcases l with _|l
    ·show _=DT (if b < 1\/size x - b+1 < 1\/size x < b+(size x - b+1) - 1 then none else some (o+b - 1,size x - b+1)) h1
     have r70:ρ'.lookup 70=some (.tup [.int b,.none]):=r70
     by_cases c1:b < 1
     ·rw [if_pos (.inl c1)]
      show _=R.exc 96 h1
      exact HZ
     ·by_cases c2:size x - b+1 < 1
      ·rw [if_pos (.inr (.inl c2))]
       show _=R.exc 96 h1
       exact HZ
      ·by_cases c3:size x < b+(size x - b+1) - 1
       ·omega
       ·rw [if_neg (by omega)]
        show _=R.ok (V.tup [.int (o+b - 1),.int (size x - b+1)]) h1
        exact HZ
    ·show _=DT (if b < 1\/l < 1\/size x < b+l - 1 then none else some (o+b - 1,l)) h1
     have r70:ρ'.lookup 70=some (.tup [.int b,.int l]):=r70
     by_cases c1:b < 1
     ·rw [if_pos (.inl c1)]
      show _=R.exc 96 h1
      exact HZ
     ·by_cases c2:l < 1
      ·rw [if_pos (.inr (.inl c2))]
       show _=R.exc 96 h1
       exact HZ
      ·by_cases c3:size x < b+l - 1
       ·rw [if_pos (.inr (.inr c3))]
        show _=R.exc 96 h1
        exact HZ
       ·rw [if_neg (by omega)]
        show _=R.ok (V.tup [.int (o+b - 1),.int l]) h1
        exact HZ
 ·rw [if_neg he]
  have c:(((xs.map V.int).length:Int)==(((et x).map D.rf).length:Int))=false:=by rw [on,on];exact BV (by omega)
  have ll:([97,110,111,116,104,101,114,32,110,117,109,98,101,114,32,111,102,32,115,117,98,115,99,114,105,112,116,115,32,116,104,97,110,32,116,97,98,108,101,115,58,32]:List Nat).length+(nm x).length<=100000:=by rw [nl];simp
  have ex:=ex ([97,110,111,116,104,101,114,32,110,117,109,98,101,114,32,111,102,32,115,117,98,115,99,114,105,112,116,115,32,116,104,97,110,32,116,97,98,108,101,115,58,32]++nm x)
  unfold DAd.rf at e1⊢
  delta Bp
  show _=R.exc 96 h1
  exact HZ
end
end
section
def Tp (t c:Nat) (h h':H):Prop:=∀(j:Nat) (o:O),j≠t->j≠c->h[j]?=some o->h'[j]?=some o
theorem Tp.refl {t c:Nat} {h:H}:Tp t c h h:=fun Z Z Z Z e=>e
theorem Tp.trans {t c:Nat} {h h1 h2:H} (a:Tp t c h h1) (b:Tp t c h1 h2):Tp t c h h2:=fun j o n1 n2 e=>b j o n1 n2 (a j o n1 n2 e)
structure cY (t c:Nat) (K:Int) (h:H):Prop where
 at_:∃(k:Int) (xs:List Int),0<=k/\k<=K/\h[t]?=some (.list [.ref c,.int k])/\h[c]?=some (.list (xs.map .int))/\0 < xs.length/\xs.length<=60
 ne:t≠c
 K:K < 1000
theorem cY.lt {t c:Nat} {K:Int} {h:H} (a:cY t c K h):t < h.length/\c < h.length:=by
 obtain ⟨k,xs,-,-,e1,e2,-⟩:=a.at_;exact ⟨bF e1,bF e2⟩
theorem cY.keep {t c:Nat} {K:Int} {h h':H} (a:cY t c K h) (X:Ex h h'):cY t c K h':=by
 obtain ⟨k,xs,k0,k1,e1,e2,l⟩:=a.at_;exact ⟨⟨k,xs,k0,k1,X _ _ e1,X _ _ e2,l⟩,a.ne,a.K⟩
theorem cY.up {t c:Nat} {K K':Int} {h:H} (a:cY t c K h) (g:K<=K') (g2:K' < 1000):cY t c K' h:=by
 obtain ⟨k,xs,k0,k1,e⟩:=a.at_;exact ⟨⟨k,xs,k0,by omega,e⟩,a.ne,g2⟩
theorem Gb {h:H} {t c n:Nat} {K l:Int} (T:cY t c K h) (hl:0 < l/\l<=14) (hK:K < 999):
  ∃(r:Int) (h':H),a9 PT0 1000 (n+1) (.fn 793) [.ref t,.int l] h=.ok (.int r) h'/\0<=r/\r < l/\cY t c (K+1) h'/\Tp t c h h':=by
 obtain ⟨k,xs,k0,k1,e1,e2,l1,l2⟩:=T.at_
 obtain ⟨r,ys,e,r0,r1,hy⟩:=uJ (len:=0) (n:=n) e1 e2 T.ne hl ⟨l1,l2⟩ ⟨k0,by omega⟩
 refine ⟨r,_,e,r0,r1,⟨⟨k+1,ys,by omega,by omega,bR (Ne.symm T.ne) (dF e1),dF (bR T.ne e2),by omega,by omega⟩,T.ne,by omega⟩,?_⟩
 intro j o n1 n2 g
 exact bR (Ne.symm n2) (bR (Ne.symm n1) g)
noncomputable def kT (w:Nat) (a:List Int):Key:=.t (.s [w]::a.map .i)
noncomputable def cc (one l:Int):Nat->List (Key×V)×Int->List (Key×V)×Int
 |0,s=>s
 |k+1,s=>(dictSet (kT 66 [one,1+(k:Int)]) (.tup [.int (cc one l k s).2,.int l]) (dictSet (kT 85 [one,1+(k:Int)]) (.tup [.int (cc one l k s).2,.int l]) (cc one l k s).1),(cc one l k s).2+l)
noncomputable def bM (m:Nat) (f l:Int):Nat->List (Key×V)×Int->List (Key×V)×Int
 |0,s=>s
 |k+1,s=>
  let q:=bM m f l k s
  let r:=cc (1+(k:Int)) l m (dictSet (kT 65 [1+(k:Int)]) (.tup [.int q.2,.int f]) q.1,q.2+f)
  (dictSet (kT 84 [1+(k:Int)]) (.tup [.int q.2,.int (r.2 - q.2)]) r.1,r.2)
theorem lf {one l:Int} {k:Nat} {s:List (Key×V)×Int}:cc one l (k+1) s=(dictSet (kT 66 [one,1+(k:Int)]) (.tup [.int (cc one l k s).2,.int l]) (dictSet (kT 85 [one,1+(k:Int)]) (.tup [.int (cc one l k s).2,.int l]) (cc one l k s).1),(cc one l k s).2+l):=rfl
theorem gb {m:Nat} {f l:Int} {k:Nat} {s:List (Key×V)×Int}:bM m f l (k+1) s=
  let q:=bM m f l k s
  let r:=cc (1+(k:Int)) l m (dictSet (kT 65 [1+(k:Int)]) (.tup [.int q.2,.int f]) q.1,q.2+f)
  (dictSet (kT 84 [1+(k:Int)]) (.tup [.int q.2,.int (r.2 - q.2)]) r.1,r.2):=rfl
noncomputable def b6 (m k:Nat) (f l:Int):List (Key×V):=
 let q:=bM k f l m ([],3)
 dictSet (.t [.s [72,65]]) (.tup [.int q.2,.int 4]) (dictSet (.t [.s [72]]) (.tup [.int q.2,.int 4]) (dictSet (.t [.s [71]]) (.tup [.int 3,.int (q.2 - 3)]) q.1))
noncomputable def Hw:Key->Bool
 |.t _=>true
 |_=>false
noncomputable def oM (es:List (Key×V)):Bool:=es.all fun e=>Hw e.1
theorem A2 {xs:List V} {ks:List FK} {es:List (Key×V)} (e:xs.mapM cK=some ks) (ha:oM es=true):dy (.tup xs) es=some (.t ks):=by
 have hk:qx (.tup xs)=some (.t ks):=by show (xs.mapM cK).map Key.t=_;rw [e];rfl
 unfold dy
 rw [hk]
 refine ce ?_
 rw [oM,List.all_eq_true] at ha
 rw [List.all_eq_true]
 intro p hp
 have:=ha p hp
 revert this
 rcases p.1 with _|_
 ·exact fun h=>(nomatch h)
 ·exact fun Z=>rfl
theorem dZ {ks:List FK} {v:V} {es:List (Key×V)} (ha:oM es=true):oM (dictSet (.t ks) v es)=true:=by
 unfold dictSet
 split
 ·rw [oM,List.all_map];rw [oM] at ha;rw [<-ha]
  congr 1;funext e;simp only [Function.comp];split<;>rfl
 ·rw [oM,List.all_append];rw [oM] at ha;rw [ha];rfl
theorem tV {a b:Int} {i:Nat} (h:i < (b - a).toNat):(av a b)[i]?=some (.int (a+i)):=by
 unfold av;rw [List.getElem?_map,List.getElem?_range h];rfl
theorem zC {a b:Int} {i:Nat} (h:(b - a).toNat<=i):(av a b)[i]?=none:=by
 unfold av;rw [List.getElem?_map,HQ (by simpa using h)];rfl
theorem sR {a b:Int} {h:H} (e:-1000000<=a/\a<=1000000/\-1000000<=b/\b<=1000000/\b - a<=100000):items (.rng a b) h=some (av a b):=ce (by unfold jL;rw [bU (by omega),bU (by omega),decide_eq_true e.2.2.2.2];rfl)
theorem yk {a b:Int} {i:Nat} {all:List V} {h1 h2:H} {v:Option V} (e:all[i]?=v):b5 (isL (.rng a b) h1) (.rng a b) all i h2=some v:=congrArg some e
end
section
noncomputable def H2 (xs:List Int) (K:Int):H:=[.list (xs.map .int),.list [.ref 0,.int K]]
theorem oX {xs:List Int} {K l:Int} {n:Nat} (hx:0 < xs.length/\xs.length<=60) (hK:0<=K/\K < 1000000) (hl:0 < l/\l<=14):
  ∃r ys,a9 PT0 1000 (n+1) (.fn 793) [.ref 1,.int l] (H2 xs K)=.ok (.int r) (H2 ys (K+1))/\0<=r/\r < l/\ys.length=xs.length:=
 uJ (len:=0) (t:=1) (c:=0) (h:=H2 xs K) rfl rfl (by decide) hl hx hK
theorem BC {r:Int} (h0:0<=r) (h1:r < 3):r=0\/r=1\/r=2:=by omega
noncomputable def lV (m k:Nat):O:=.dict [(.s [84],.int (k:Int)),(.s [85],.int (m:Int))]
theorem Cu {cf:V->List V->PM V} {ys:List Int} {K f l:Int} (k m:Nat) (hk:k=1\/k=2\/k=3) (hm:m=1\/m=2\/m=3):
  (exs PT0 cf 1000 (En.body.drop 2) [(126,.int l),(40,.int f),(125,.int (m:Int)),(124,.int (k:Int)),(115,.ref 1)] (H2 ys K)).bd qp=.ok (.tup [.ref 2,.ref 3]) [.list (ys.map .int),.list [.ref 0,.int K],.dict (b6 k m f l),lV m k]:=by
 rcases hk with rfl|rfl|rfl<;>rcases hm with rfl|rfl|rfl<;>kernel_rfl
theorem wC {n:Nat} {xs:List Int} (hx:0 < xs.length/\xs.length<=60):∃(m k:Nat) (f l:Int) (ys:List Int),a9 PT0 1000 (n+2) (.fn 807) [.ref 1] (H2 xs 0)=.ok (.tup [.ref 2,.ref 3]) [.list (ys.map .int),.list [.ref 0,.int 4],.dict (b6 k m f l),lV m k]/\
  (m=1\/m=2\/m=3)/\(k=1\/k=2\/k=3)/\(1<=f/\f<=3)/\(1<=l/\l<=3)/\ys.length=xs.length:=by
 obtain ⟨a,x1,e1,a0,a1,q1⟩:=oX (n:=n) (l:=3) hx (K:=0) (by decide) (by decide)
 obtain ⟨b,x2,e2,b0,b1,q2⟩:=oX (n:=n) (l:=3) (q1.symm▸hx) (K:=0+1) (by decide) (by decide)
 obtain ⟨f,x3,e3,f0,f1,q3⟩:=oX (n:=n) (l:=3) (q2.symm▸q1.symm▸hx) (K:=0+1+1) (by decide) (by decide)
 obtain ⟨l,x4,e4,l0,l1,q4⟩:=oX (n:=n) (l:=3) (q3.symm▸q2.symm▸q1.symm▸hx) (K:=0+1+1+1) (by decide) (by decide)
 obtain ⟨k,hk,hk2⟩:∃k:Nat,1+a=(k:Int)/\(k=1\/k=2\/k=3):=by rcases BC a0 a1 with rfl|rfl|rfl<;>exact ⟨_,rfl,by decide⟩
 obtain ⟨m,hm,hm2⟩:∃m:Nat,1+b=(m:Int)/\(m=1\/m=2\/m=3):=by rcases BC b0 b1 with rfl|rfl|rfl<;>exact ⟨_,rfl,by decide⟩
 refine ⟨m,k,1+f,1+l,x4,af rfl rfl ?_,hm2,hk2,by omega,by omega,q4.trans (q3.trans (q2.trans q1))⟩
 have s1:ex PT0 (a9 PT0 1000 (n+1)) 1000 (.asgD [124,125] [.bin .Add (.int (1)) (.call (.stat (.fn 793)) [.loc 115,.int (3)]),.bin .Add (.int (1)) (.call (.stat (.fn 793)) [.loc 115,.int (3)])]) [(115,.ref 1)] (H2 xs 0)=.ok (.next,[(125,.int (m:Int)),(124,.int (k:Int)),(115,.ref 1)]) (H2 x2 (0+1+1)):=by
  rw [<-hk,<-hm]
  exact HY
 have s2:ex PT0 (a9 PT0 1000 (n+1)) 1000 (.asgD [40,126] [.bin .Add (.int (1)) (.call (.stat (.fn 793)) [.loc 115,.int (3)]),.bin .Add (.int (1)) (.call (.stat (.fn 793)) [.loc 115,.int (3)])]) [(125,.int (m:Int)),(124,.int (k:Int)),(115,.ref 1)] (H2 x2 (0+1+1))=.ok (.next,[(126,.int (1+l)),(40,.int (1+f)),(125,.int (m:Int)),(124,.int (k:Int)),(115,.ref 1)]) (H2 x4 (0+1+1+1+1)):=by
  exact HY
 exact eD (ck (m:=ex PT0 (a9 PT0 1000 (n+1)) 1000 _ [(115,.ref 1)] (H2 xs 0)) s1 (aS (ck (m:=ex PT0 (a9 PT0 1000 (n+1)) 1000 _ [(125,.int (m:Int)),(124,.int (k:Int)),(115,.ref 1)] (H2 x2 (0+1+1))) s2 (aS rfl)))) (Cu k m hk2 hm2)
noncomputable def ky:It->List Nat
 |.X=>[72,65]|x=>nm x
noncomputable def kks:It->List FK
 |.G=>[.s [71]]|.T=>[.s [84],.i 1]|.A=>[.s [65],.i 1]|.U=>[.s [85],.i 1,.i 1]|.B=>[.s [66],.i 1,.i 1]|.H=>[.s [72]]|.X=>[.s [72,65]]
noncomputable def qt (es:List (Key×V)) (x:It):Int×Int:=match es.lookup (.t (kks x)) with
 |some (.tup [.int o,.int z])=>(o,z)
 |_=>(0,0)
noncomputable def ft (m k:Nat):It->Int
 |.T=>k|.U=>m|_=>0
theorem xC {n:Nat} {o0 o1:O} {f l:Int} (k m:Nat) (hk:k=1\/k=2\/k=3) (hm:m=1\/m=2\/m=3):
  a9 PT0 1000 (n+3) (.fn 800) [.ref 2,.ref 3] [o0,o1,.dict (b6 k m f l),lV m k]=.ok (.ref 4) (Bs o0 o1 (.dict (b6 k m f l)) (fun x=>(qt (b6 k m f l) x).1) (fun x=>(qt (b6 k m f l) x).2) (ft m k)):=by
 rcases hk with rfl|rfl|rfl<;>rcases hm with rfl|rfl|rfl<;>kernel_rfl
end
section
theorem vH {P:PT} {cf:V->List V->PM V} {elt it c:PE} {x k:Nat} {ρ:Loc} {g:Nat->Option V} {h h1:H} {I:H->Prop} (hi:ev P cf it ρ h=.ok (.rng 0 (k:Int)) h1) (hI:I h1)
  (he:∀j∈List.range k,∀h,I h->∃h',fx P cf elt x c ρ (.int (0+(j:Int))) h=.ok (g j) h'/\I h') (hl:k<=1000):∃h2,ev P cf (.comp elt x it c) ρ h=.ok (.ref h2.length) (h2++[.list ((List.range k).filterMap g)])/\I h2:=by
 have hr:av 0 (k:Int)=(List.range k).map fun (i:Nat)=>V.int (0+(i:Int)):=by unfold av;rw [show ((k:Int) - 0).toNat=k by omega]
 obtain ⟨h',e,hI'⟩:=mK (nx:=b5 (isL (.rng 0 (k:Int)) h1) (.rng 0 (k:Int)) (av 0 (k:Int))) (el:=fx P cf elt x c ρ) (f:=fun (i:Nat)=>V.int (0+(i:Int))) (xs:=List.range k) (g:=g) (I:=I) (by
   intro i h hI'
   rw [hr];rfl) he 99999 0 [] h1 (by rw [List.length_range];omega) hI
 rw [List.drop_zero,List.nil_append] at e
 refine ⟨h',jQ hi (sR (by omega)) (eZ e) (mY ?_),hI'⟩
 have:=List.length_filterMap_le g (List.range k)
 rw [List.length_range] at this
 omega
theorem CD {h g:H} {o p:O}:(h++[o]++g).set h.length p=h++[p]++g:=by simp
theorem Fq {P:PT} {c:Addr} {fs fs':List (Nat×V)} {x:Nat} {v:V} {h g:H} (hc:lP P c x=true) (hf:b4 x v fs=fs'):setAttr P (.ref h.length) x v (h++[.inst c fs]++g)=.ok () (h++[.inst c fs']++g):=by
 rw [nv (ax aN) hc,CD,hf]
theorem yo {h:H}:eN [] [] h=.ok (.ref h.length) (h++[.dict []]):=FI ⟨rfl,by decide,by decide⟩
noncomputable def DU:PE:=.call (.stat (.cls 594)) [.call (.stat (.fn 771)) [.list [.call (.stat (.cls 352)) [.loc 84,.comp (.tup [.int (1),.bin .Add (.int (8)) (.loc 11)]) 11 (.call (.stat (.bt .range)) [.call (.stat (.bf .len)) [.loc 84]]) (.bool true)]]]]
theorem x7 {n pl:Nat} {T:List Nat} {h:H}:a9 PT0 1000 (n+2) (.cls 352) [.str T,.ref pl] h=.ok (.ref h.length) (h++[.inst 352 [(84,.str T),(86,.ref pl)]]):=by
 refine l6 rfl rfl (af rfl rfl ?_)
 delta ET
 exact I1
 rfl
theorem r6 {n tl:Nat} {h:H}:a9 PT0 1000 (n+2) (.cls 594) [.ref tl] h=.ok (.ref h.length) (h++[dJ tl (h.length+1) 0]++[.dict []]):=by
 refine l6 rfl rfl (af rfl (show aZ _ _ _=some [(9,.ref h.length),(100,.ref tl),(11,.int 0)] from rfl) ?_)
 have nd:eN [] [] (h++[O.inst 594 (b4 11 (.int 0) (b4 100 (.ref tl) []))])=.ok (.ref (h.length+1)) (h++[O.inst 594 (b4 11 (.int 0) (b4 100 (.ref tl) []))]++[.dict []]):=by rw [yo];simp
 delta EO
 exact I1
 rfl
theorem mw {n:Nat} {T:List Nat} {ks:List Tk} {ρ:Loc} {h:H} (hx:Lx T ks) (hl:T.length<=900) (hk:ks.length<=900) (r84:ρ.lookup 84=some (.str T)):
  ∃h' r tl nd ts,ev PT0 (a9 PT0 1000 (n+6)) DU ρ h=.ok (.ref r) h'/\RS r tl nd ks ts 0 h'/\Ex h h'/\h.length<=r:=by
 have hT:T.length<=100000:=by omega
 obtain ⟨h1,e1,rfl⟩:=vH (P:=PT0) (cf:=a9 PT0 1000 (n+6)) (elt:=.tup [.int (1),.bin .Add (.int (8)) (.loc 11)]) (x:=11) (it:=.call (.stat (.bt .range)) [.call (.stat (.bf .len)) [.loc 84]]) (c:=.bool true) (ρ:=ρ) (g:=fun j=>some (.tup [.int 1,.int (8+(0+(j:Int)))])) (h:=h) (h1:=h) (k:=T.length) (I:=fun h'=>h'=h) (by exact HZ) rfl (fun j Z h' e=>by
  subst e
  exact ⟨_,by exact HZ,rfl⟩) (by omega)
 let ps:List V:=(List.range T.length).filterMap fun (j:Nat)=>some (V.tup [.int 1,.int (8+(0+(j:Int)))])
 have hps:ps=(List.range T.length).map fun (j:Nat)=>V.tup [.int 1,.int (8+(0+(j:Int)))]:=fE _ _
 have hpl:tj T.length ps:=by
  intro j hj
  refine cw (by omega) ?_
  rw [hps,List.getElem?_map,List.getElem?_range hj]
  show some (V.tup [.int 1,.int (8+(0+(j:Int)))])=_
  rw [Int.zero_add]
 let h2:H:=h1++[.list ps]
 let h3:H:=h2++[.inst 352 [(84,.str T),(86,.ref h1.length)]]
 let h4:H:=h3++[.list [.ref h2.length]]
 have e2:=x7 (n:=n+4) (pl:=h1.length) (T:=T) (h:=h2)
 obtain ⟨h5,ts,tl,e3,g3,tk,G3⟩:=mN (n:=n) (h:=h4) hl (ax aN) (ax (ax aN)) hpl aN hx
 have e4:=r6 (n:=n+4) (tl:=tl) (h:=h5)
 have X:Ex h1 h5:=fun j o g=>G3 h5.length j o (by
  have h4l:j < h4.length:=bF (ax (ax (ax g)):h4[j]?=some o)
  have hle:h4.length<=h5.length:=Ex.len fun j' o' g'=>G3 (h5.length+h4.length) j' o' (by have:=bF g';omega) g'
  omega) (ax (ax (ax g)))
 refine ⟨h5++[dJ tl (h5.length+1) 0]++[.dict []],h5.length,tl,h5.length+1,ts,?_,?_,(X.trans Ex.app).trans Ex.app,X.len⟩
 ·delta DU
  exact HZ
 ·refine ⟨ax aN,ax (ax g3),bF g3,tk.1,fun j kw e=>?_,hk⟩
  obtain ⟨a,o,q1,q2,q3,q4⟩:=tk.2 j kw e
  exact ⟨a,o,q1,bF q3,ax (ax q3),q4⟩
end
section
noncomputable def Pz (r tl nd:Nat) (ks:List Tk) (ts:List V) (w:List Nat) (qs:List (List Nat)) (xs:List Int) (p:Option (Int×Option Int)):Prop:=
 ∃kw i1 i2,ks[0]?=some kw/\kw.2=w/\dM ks 0=true/\jA ks 1 qs i1/\yQ r tl nd ks ts i1 xs i2/\sj r tl nd ks ts i2 p ks.length
noncomputable def iN (off size high:It->Int) (it:Option It) (xs:List Int) (p:Option (Int×Option Int)):V:=
 match it with
 |some x=>(match cO off size high x xs p with|some (o,z)=>.tup [.int o,.int z]|none=>.str [114,117,110])
 |none=>.str [99,104,101,99,107]
theorem lE.pairs {vs:List V} {xs:List Int} (a:lE vs xs):∃l:List (V×Int),vs=l.map (·.1)/\xs=l.map (·.2)/\∀p∈l,fL 3 p.1 p.2:=by
 induction a with
 |nil=>exact ⟨[],rfl,rfl,by simp⟩
 |@cons v x vs xs h t ih=>
  obtain ⟨l,e1,e2,e3⟩:=ih
  refine ⟨(v,x)::l,by rw [e1];rfl,by rw [e2];rfl,fun p hp=>?_⟩
  rcases List.mem_cons.1 hp with rfl|hp
  ·exact h
  ·exact e3 p hp
theorem rK {n:Nat} {vs:List V} {xs:List Int} {it:PE} {ρ:Loc} {h h1:H} (hv:lE vs xs) (hn:3<=n) (hl:vs.length<=1000) (hi:ev PT0 (a9 PT0 1000 n) it ρ h=.ok (.tup vs) h1):ev PT0 (a9 PT0 1000 n) (.comp (.call (.stat (.fn 828)) [.loc 128]) 128 it (.bool true)) ρ h=.ok (.ref h1.length) (h1++[.list (xs.map .int)]):=by
 obtain ⟨l,rfl,rfl,h3⟩:=hv.pairs
 rw [on] at hl
 obtain ⟨h',e,rfl⟩:=mK (nx:=b5 (isL (.tup (l.map (·.1))) h1) (.tup (l.map (·.1))) (l.map (·.1))) (el:=fx PT0 (a9 PT0 1000 n) (.call (.stat (.fn 828)) [.loc 128]) 128 (.bool true) ρ) (f:=fun p:V×Int=>p.1) (xs:=l) (g:=fun p=>some (.int p.2)) (I:=fun h'=>h'=h1) (fun i h Z=>rfl) (fun p hp h' e=>by
   subst e
   have e1:=eU (h3 p hp) n h' hn
   exact ⟨h',by exact I2,rfl⟩) 99999 0 [] h1 (by omega) rfl
 rw [List.drop_zero,List.nil_append,fE] at e
 rw [List.map_map]
 exact jQ hi rfl (eZ e) (mY (by rw [on];omega))
section
variable {r tl nd:Nat} {ks:List Tk} {ts:List V}
theorem ri {n:Nat} {h:H} (S:RS r tl nd ks ts ks.length h):a9 PT0 1000 (n+1) (.fn 455) [.ref r] h=.ok (.bool true) h:=by
 have g1:=S.rd
 have g2:=S.ls
 have hz:=S.szt
 have hl:=S.len
 refine af rfl rfl ?_
 have c:(ts.length:Int)<=(ks.length:Int):=by omega
 delta EN
 exact I2
end
noncomputable def Bb:PS:=.retX (.stat (.fn 328)) [.call (.stat (.fn 321)) [.loc 49,.sub (.loc 129) (.int (1)),.sub (.loc 129) (.int (2))],.comp (.call (.stat (.fn 828)) [.loc 128]) 128 (.sub (.loc 129) (.int (3))) (.bool true),.loc 70]
noncomputable def hdl:List (Addr×List Nat):=[(84,[99,104,101,99,107]),(96,[114,117,110]),(72,[103,114,97,109,109,97,114])]
theorem Dd {n:Nat} {w:List Nat} {qs:List (List Nat)} {vs:List V} {xs:List Int} {p:Option (Int×Option Int)} {kd pv:V} {ρ:Loc} {D:DAd} {off size high:It->Int} {h:H} {it:Option It} (S:DH D off size high h) (F:jR w qs it) (V2:lE vs xs) (hb:∀k∈xs,0<=k/\k<=1000) (h5:xs.length<=1000) (hz:∀y,0<=size y/\size y<=1000000)
  (r49:ρ.lookup 49=some (.ref D.d)) (r129:ρ.lookup 129=some (.tup [kd,.str w,.tup (qs.map .str),.tup vs,pv])) (r70:ρ.lookup 70=some (qu p)):
  ∃h',Ex h h'/\((∃o z,iN off size high it xs p=.tup [.int o,.int z]/\ex PT0 (a9 PT0 1000 (n+12)) 1000 Bb ρ h=.ok (.ret (.tup [.int o,.int z]),ρ) h')\/(∃c t,ex PT0 (a9 PT0 1000 (n+12)) 1000 Bb ρ h=.exc c h'/\isX PT0 c=true/\exh PT0 c hdl=some t/\iN off size high it xs p=.str t)):=by
 have vl:vs.length<=1000:=by rw [V2.len];exact h5
 have i1:aC [kd,.str w,.tup (qs.map .str),.tup vs,pv] 1=some (.str w):=rfl
 have i2:aC [kd,.str w,.tup (qs.map .str),.tup vs,pv] 2=some (.tup (qs.map .str)):=rfl
 have i3:aC [kd,.str w,.tup (qs.map .str),.tup vs,pv] 3=some (.tup vs):=rfl
 unfold iN
 rcases it with _|x
 ·obtain ⟨h3,e3,X3⟩:=Ao (n:=n+7) (w:=w) S F
  refine ⟨h3,X3,.inr ⟨84,_,?_,rfl,rfl,rfl⟩⟩
  delta Bb;exact I2
 ·obtain ⟨h3,e3,X3⟩:=An (n:=n+7) (w:=w) S F
  have e4:=rK (n:=n+12) (it:=.sub (.loc 129) (.int 3)) (ρ:=ρ) (h:=h3) (h1:=h3) V2 (by omega) vl (by exact I2)
  have X4:Ex h (h3++[.list (xs.map .int)]):=X3.trans Ex.app
  obtain ⟨h5,e5,X5⟩:=qP (n:=n+9) (x:=x) (p:=p) (S.keep X4) aN hb hz h5
  refine ⟨h5,X4.trans X5,?_⟩
  dsimp only
  revert e5
  unfold DAd.rf at e3⊢
  rcases cO off size high x xs p with _|oz
  ·intro e5
   have e5:a9 PT0 1000 (n+12) (.fn 328) [.ref (D.ad x),.ref h3.length,qu p] (h3++[O.list (xs.map .int)])=.exc 96 h5:=e5
   refine .inr ⟨96,_,?_,rfl,rfl,rfl⟩
   delta Bb;exact I2
  ·obtain ⟨o,z⟩:=oz
   intro e5
   have e5:a9 PT0 1000 (n+12) (.fn 328) [.ref (D.ad x),.ref h3.length,qu p] (h3++[O.list (xs.map .int)])=.ok (.tup [.int o,.int z]) h5:=e5
   refine .inl ⟨o,z,rfl,?_⟩
   delta Bb;exact I2
theorem xh {n:Nat} {T:List Nat} {ks:List Tk} {w:List Nat} {qs:List (List Nat)} {xs:List Int} {p:Option (Int×Option Int)} {D:DAd} {off size high:It->Int} {h:H} {it:Option It} (S:DH D off size high h) (F:jR w qs it) (hx:Lx T ks) (hl:T.length<=900) (hk:ks.length<=900)
  (hs:∀kw∈ks,kw.2.length<=100) (hq:qs.length<=900) (P:∀r tl nd ts,Pz r tl nd ks ts w qs xs p) (hb:∀k∈xs,0<=k/\k<=1000) (h5:xs.length<=1000) (hz:∀y,0<=size y/\size y<=1000000):
  ∃h',a9 PT0 1000 (n+13) (.fn 833) [.ref D.d,.str T] h=.ok (iN off size high it xs p) h'/\Ex h h':=by
 obtain ⟨h1,r,tl,nd,ts,e1,R1,X1,hr⟩:=mw (n:=n+6) (ρ:=[(49,.ref D.d),(84,.str T)]) hx hl hk rfl
 obtain ⟨kw,i1,i2,k0,rfl,hn,hQ,hSu,hP⟩:=P r tl nd ts
 have h0:0 < ks.length:=(List.getElem?_eq_some_iff.1 k0).1
 have hkw:=hs kw (we k0)
 obtain ⟨h2,vs,pv,e2,R2,G2,V2,PV⟩:=CI (n:=n) R1 h0 hs k0 hn hQ hq hSu hP
 have X2:Ex h h2:=fun j o g=>G2 j o (by have:=bF g;omega) (X1 j o g)
 have S2:=S.keep X2
 have dn:=ri (n:=n+11) R2
 have g1:=R2.rd
 let rf:V:=.tup [.str [114,101,102],.str kw.2,.tup (qs.map .str),.tup vs,pv]
 have i4:aC [.str [114,101,102],.str kw.2,.tup (qs.map .str),.tup vs,pv] 4=some pv:=rfl
 have gm:jt PT0 (.ref r) 130 h2=.ok (.own 455) h2:=uo g1 rfl rfl rfl rfl
 let ρ2:Loc:=(70,pv)::(129,rf)::(56,.ref r)::(49,.ref D.d)::[(84,.str T)]
 have go:∀ρ3:Loc,ρ3.lookup 49=some (.ref D.d)->ρ3.lookup 129=some rf->ρ3.lookup 70=some (qu p)->
   ex PT0 (a9 PT0 1000 (n+12)) 1000 (.ite (.cmp (.loc 70) .IsNot (.none)) [.asg 70 (.tup [.call (.stat (.fn 828)) [.sub (.loc 70) (.int (0))],.ite (.cmp (.sub (.loc 70) (.int (1))) .Is (.none)) (.none) (.call (.stat (.fn 828)) [.sub (.loc 70) (.int (1))])])] []) ρ2 h2=.ok (.next,ρ3) h2->
   ∃h',a9 PT0 1000 (n+13) (.fn 833) [.ref D.d,.str T] h=.ok (iN off size high it xs p) h'/\Ex h h':=by
  intro ρ3 q49 q129 q70 e3
  obtain ⟨h4,X4,fin⟩:=Dd (n:=n) S2 F V2 hb h5 hz q49 q129 q70
  refine ⟨h4,af rfl rfl ?_,X2.trans X4⟩
  delta DX
  delta DU at e1
  dsimp only [Bb] at fin
  let ρ1:Loc:=(56,.ref r)::(49,.ref D.d)::[(84,.str T)]
  have hs1:∀e,ex PT0 (a9 PT0 1000 (n+12)) 1000 (.asg 56 (.call (.stat (.cls 594)) [.call (.stat (.fn 771)) [.list [.call (.stat (.cls 352)) [.loc 84,.comp (.tup [.int (1),.bin .Add (.int (8)) (.loc 11)]) 11 (.call (.stat (.bt .range)) [.call (.stat (.bf .len)) [.loc 84]]) (.bool true)]]]])) [(49,.ref D.d),(84,.str T)] h=e->R.ok (.next,ρ1) h1=e:=fun e h=>(w6 e1 rfl).symm.trans h
  rcases fin with ⟨o,z,hv,e4⟩|⟨c,t,e4,c1,c2,hv⟩
  ·rw [hv]
   refine (eD (q:=.ok (.ret (.tup [.int o,.int z]),ρ3) h4) (aQ.trans (ck (hs1 _ rfl).symm (aS (aQ.trans (ck (wk (q:=(.ret (.tup [.int o,.int z]),ρ3)) (h':=h4) ?_) oZ))))) iu)
   exact I2
  ·rw [hv]
   refine (eD (q:=.ok (.ret (.str t),ρ1) h4) (aQ.trans (ck (hs1 _ rfl).symm (aS (aQ.trans (ck (m9 (c:=c) (h':=h4) ?_ c1 c2) oZ))))) iu)
   exact I2
 rcases p with _|⟨b,l⟩
 ·have hpv:pv=.none:=PV
  subst hpv
  exact go ρ2 rfl rfl rfl (by exact I2)
 ·obtain ⟨v,u,hpv,V3,V4⟩:=PV
  subst hpv
  have j0:aC [v,u] 0=some v:=rfl
  have j1:aC [v,u] 1=some u:=rfl
  have w1:=eU V3 (n+12) h2 (by omega)
  obtain ⟨v1,v2,rfl⟩:=V3.tup
  rcases l with _|l
  ·have hu:u=.none:=V4
   subst hu
   exact go ((70,.tup [.int b,.none])::ρ2) rfl rfl rfl (by exact I2)
  ·have V5:fL 3 u l:=V4
   have w2:=eU V5 (n+12) h2 (by omega)
   obtain ⟨u1,u2,rfl⟩:=V5.tup
   exact go ((70,.tup [.int b,.int l])::ρ2) rfl rfl rfl (by exact I2)
end
section
noncomputable def Cz (r tl nd:Nat) (ks:List Tk) (ts:List V) (w:List Nat) (qs:List (List Nat)):Prop:=
 ∃kw i1 i2 i3,ks[0]?=some kw/\kw.2=w/\dM ks 0=true/\jA ks 1 qs i1/\((∃x xs ia,bu ks i1 kS [40]=true/\isPart ks i1=false/\Rd r tl nd ks ts 814 10 3 (i1+1) ia x/\Seq r tl nd ks ts ia xs i2/\xs.length<=5/\ks[i2]?=none)\/
   (∃xs x y,yQ r tl nd ks ts i1 xs i2/\pk r tl nd ks ts i2 x y i3/\ks[i3]?=none))
theorem vt {n d:Nat} {T:List Nat} {ks:List Tk} {w:List Nat} {qs:List (List Nat)} {h:H} (hx:Lx T ks) (hl:T.length<=900) (hk:ks.length<=900)
  (hs:∀kw∈ks,kw.2.length<=100) (hq:qs.length<=900) (P:∀r tl nd ts,Cz r tl nd ks ts w qs):
  ∃h',a9 PT0 1000 (n+13) (.fn 833) [.ref d,.str T] h=.ok (.str [103,114,97,109,109,97,114]) h'/\Ex h h':=by
 obtain ⟨h1,r,tl,nd,ts,e1,R1,X1,hr⟩:=mw (n:=n+6) (ρ:=[(49,.ref d),(84,.str T)]) hx hl hk rfl
 obtain ⟨kw,i1,i2,i3,k0,rfl,hn,hQ,hc⟩:=P r tl nd ts
 have h0:0 < ks.length:=(List.getElem?_eq_some_iff.1 k0).1
 obtain ⟨h2,e2,G2⟩:=zE (n:=n) R1 h0 hs k0 hn hQ hq hc
 refine ⟨h2,af rfl rfl ?_,fun j o g=>G2 j o (by have:=bF g;omega) (X1 j o g)⟩
 delta DX
 delta DU at e1
 let ρ1:Loc:=(56,.ref r)::(49,.ref d)::[(84,.str T)]
 have hs1:∀e,ex PT0 (a9 PT0 1000 (n+12)) 1000 (.asg 56 (.call (.stat (.cls 594)) [.call (.stat (.fn 771)) [.list [.call (.stat (.cls 352)) [.loc 84,.comp (.tup [.int (1),.bin .Add (.int (8)) (.loc 11)]) 11 (.call (.stat (.bt .range)) [.call (.stat (.bf .len)) [.loc 84]]) (.bool true)]]]])) [(49,.ref d),(84,.str T)] h=e->R.ok (.next,ρ1) h1=e:=fun e h=>(w6 e1 rfl).symm.trans h
 refine (eD (q:=.ok (.ret (.str [103,114,97,109,109,97,114]),ρ1) h2) (aQ.trans (ck (hs1 _ rfl).symm (aS (aQ.trans (ck (m9 (c:=72) (h':=h2) ?_ rfl rfl) oZ))))) iu)
 exact HZ
end
section
noncomputable abbrev tS (c:Nat):Tk:=(kS,[c])
noncomputable abbrev tN (d:Nat):Tk:=(kN,[d])
noncomputable abbrev tW (w:List Nat):Tk:=(kW,w)
noncomputable def spK:Nat->Nat->List Tk
 |1,v+1=>[tN (48+v),tS 43,tN 49]
 |2,v=>[tN 48,tS 43,tS 40,tN (48+v),tS 43,tN 48,tS 41]
 |_,v=>[tN (48+v)]
noncomputable def nsK:List (Nat×Nat)->List Tk
 |[]=>[]
 |a::l=>spK a.1 a.2++nsK l
noncomputable def qK:List (Bool×List Nat)->List Tk
 |[]=>[]
 |a::l=>tW (if a.1 then kOF else kIN)::tW a.2::qK l
noncomputable def jr:List (Nat×Nat)->List Tk
 |[]=>[]
 |a::l=>tS 40::(nsK (a::l)++[tS 41])
noncomputable def mW:Option (Nat×Nat)->List Tk
 |none=>[]
 |some a=>spK a.1 a.2
noncomputable def dS:Option ((Nat×Nat)×Option (Nat×Nat))->List Tk
 |none=>[]
 |some (b,l)=>tS 40::(spK b.1 b.2++tS 58::(mW l++[tS 41]))
theorem gh (w v:Nat):spK w v=[tN (48+v)]\/(∃u,v=u+1/\spK w v=[tN (48+u),tS 43,tN 49])\/spK w v=[tN 48,tS 43,tS 40,tN (48+v),tS 43,tN 48,tS 41]:=by
 rcases w with _|_|_|w
 ·exact .inl rfl
 ·rcases v with _|u
  ·exact .inl rfl
  ·exact .inr (.inl ⟨u,rfl,rfl⟩)
 ·exact .inr (.inr rfl)
 ·exact .inl rfl
theorem kX (w v:Nat):∃d t,spK w v=tN d::t:=by
 rcases gh w v with e|⟨u,rfl,e⟩|e<;>rw [e]<;>exact ⟨_,_,rfl⟩
theorem lO:∀v≤9,dv (48+v)=v/\48+v∈DG:=by
 intro v hv
 have:∀v:Fin 10,dv (48+v.1)=v.1/\48+v.1∈DG:=by decide
 exact this ⟨v,by omega⟩
theorem dU {kw:Tk} {l:List Tk} {d:Nat} (h1:sgn kw [40]=false) (h2:sgn kw [41]=false) (h3:sgn kw [58]=false):jK (kw::l) (d+1)=jK l (d+1):=by
 rw [eR,h1,h2,h3,Bool.and_false];rfl
theorem vc {l:List Tk} {d:Nat}:jK (tS 40::l) (d+1)=jK l (d+2):=eR.trans rfl
theorem jW {l:List Tk} {d:Nat}:jK (tS 41::l) (d+1)=jK l d:=eR.trans rfl
theorem tT (w v d:Nat) (l:List Tk):jK (spK w v++l) (d+1)=jK l (d+1):=by
 rcases gh w v with e|⟨u,rfl,e⟩|e<;>rw [e]
 ·exact dU rfl rfl rfl
 ·exact (dU rfl rfl rfl).trans ((dU rfl rfl rfl).trans (dU rfl rfl rfl))
 ·exact (dU rfl rfl rfl).trans ((dU rfl rfl rfl).trans (vc.trans ((dU rfl rfl rfl).trans ((dU rfl rfl rfl).trans ((dU rfl rfl rfl).trans jW)))))
theorem tU (l:List (Nat×Nat)) (d:Nat) (t:List Tk):jK (nsK l++t) (d+1)=jK t (d+1):=by
 induction l with
 |nil=>rfl
 |cons a l ih=>rw [nsK,HT,tT,ih]
theorem bC {ks l:List Tk} {i:Nat} (h:ks.drop i=l) (j:Nat):ks[i+j]?=l[j]?:=by rw [<-h,List.getElem?_drop]
theorem bk {ks a b:List Tk} {i:Nat} (h:ks.drop i=a++b):ks.drop (i+a.length)=b:=by
 rw [<-List.drop_drop,h];simp
theorem cA {ks b:List Tk} {a:Tk} {i:Nat} (h:ks.drop i=a::b):ks.drop (i+1)=b:=by
 rw [<-List.drop_drop,h];rfl
theorem aY {ks b:List Tk} {a:Tk} {i:Nat} {kd w:List Nat} (h:ks.drop i=a::b):bu ks i kd w=(az a.1 kd&&az a.2 w):=gK (bC h 0)
theorem fe {ks:List Tk} {i:Nat} {kd w:List Nat} (h:ks.drop i=[]):bu ks i kd w=false:=(i8 (by have:=bC h 0;exact this)).2.1
section
variable {r tl nd:Nat} {ks:List Tk} {ts:List V}
theorem Rd.mono {f:Addr} {N N' k i i':Nat} {x:Int} (a:Rd r tl nd ks ts f N k i i' x) (h:N<=N'):Rd r tl nd ks ts f N' k i i' x:=fun n hn=>a n (by omega)
theorem yV {i w v:Nat} {t:List Tk} (hv:v<=9) (hd:ks.drop i=spK w v++t) (hn:bu ks (i+(spK w v).length) kS [43]=false):Rd r tl nd ks ts 814 10 3 i (i+(spK w v).length) v:=by
 rcases gh w v with e|⟨u,rfl,e⟩|e<;>rw [e] at hd hn⊢
 ·have g0:ks[i]?=some (tN (48+v)):=bC hd 0
  rw [<-(lO v hv).1]
  exact (wO (by omega) (gO (k:=2) (lO v hv).2 g0) hn).mono (by omega)
 ·have g0:ks[i]?=some (tN (48+u)):=bC hd 0
  have g1:ks[i+1]?=some (tS 43):=bC hd 1
  have g2:ks[i+1+1]?=some (tN 49):=bC hd 2
  have q:=lO u (by omega)
  have z:=kY (r:=r) (tl:=tl) (nd:=nd) (ts:=ts) (N:=7) (by omega) (gO (k:=1) q.2 g0) (gK g1) (gO (k:=1) (lO 1 (by omega)).2 g2) hn
  rw [q.1,(lO 1 (by omega)).1] at z
  exact (show ((u+1:Nat):Int)=(u:Int)+((1:Nat):Int) by omega)▸z.mono (by omega)
 ·have g0:ks[i]?=some (tN 48):=bC hd 0
  have g1:ks[i+1]?=some (tS 43):=bC hd 1
  have g2:ks[i+1+1]?=some (tS 40):=bC hd 2
  have g3:ks[i+1+1+1]?=some (tN (48+v)):=bC hd 3
  have g4:ks[i+1+1+1+1]?=some (tS 43):=bC hd 4
  have g5:ks[i+1+1+1+1+1]?=some (tN 48):=bC hd 5
  have g6:ks[i+1+1+1+1+1+1]?=some (tS 41):=bC hd 6
  have q:=lO v hv
  have q0:=lO 0 (by omega)
  have z1:=kY (r:=r) (tl:=tl) (nd:=nd) (ts:=ts) (N:=7) (by omega) (gO (k:=0) q.2 g3) (gK g4) (gO (k:=0) q0.2 g5) (gK g6)
  have z2:=zL (by omega) (gK g2) z1 (gK g6)
  have z:=kY (by omega) ((gO (k:=1) q0.2 g0).mono (by omega)) (gK g1) z2 hn
  rw [q.1,q0.1] at z
  exact (show ((v:Nat):Int)=((0:Nat):Int)+((v:Int)+((0:Nat):Int)) by omega)▸z
end
end
section
noncomputable abbrev nvs (l:List (Nat×Nat)):List Int:=l.map fun a=>(a.2:Int)
noncomputable def iG:Option ((Nat×Nat)×Option (Nat×Nat))->Option (Int×Option Int)
 |none=>none
 |some (b,l)=>some ((b.2:Int),l.map fun a=>(a.2:Int))
def fW (l:List (Nat×Nat)):Prop:=∀a∈l,a.2<=9
def Bt (ks:List Tk) (i:Nat):Prop:=bu ks i kS [43]=false
theorem AZ {ks t:List Tk} {i:Nat} {l:List (Nat×Nat)} (hd:ks.drop i=nsK l++t) (h:l=[]->Bt ks i):Bt ks i:=by
 rcases l with _|⟨a,l⟩
 ·exact h rfl
 ·obtain ⟨d,u,e⟩:=kX a.1 a.2
  rw [nsK,e] at hd
  exact aY hd
noncomputable def w3 (w:List Nat):Bool:=!subIn ((([32]:List Nat)++w)++[32]) RES
section
variable {r tl nd:Nat} {ks:List Tk} {ts:List V}
theorem ye {l:List (Nat×Nat)}:∀{i:Nat} {t:List Tk},fW l->ks.drop i=nsK l++t->Bt ks (i+(nsK l).length)->Seq r tl nd ks ts i (nvs l) (i+(nsK l).length):=by
 induction l with
 |nil=>intro i t _ _ _;exact .nil i
 |cons a l ih=>
  intro i t hs hd hc
  have hl:i+(nsK (a::l)).length=i+(spK a.1 a.2).length+(nsK l).length:=by rw [nsK,List.length_append];omega
  rw [hl] at hc⊢
  rw [nsK,HT] at hd
  have hm:=bk hd
  have c1:Bt ks (i+(spK a.1 a.2).length):=AZ hm (fun e=>by subst e;exact hc)
  obtain ⟨d,u,e⟩:=kX a.1 a.2
  refine .cons (yV (hs a (by simp)) hd c1) ?_ (ih (fun b hb=>hs b (by simp [hb])) hm hc)
  rw [e] at hd
  exact aY hd
theorem pQ {i:Nat} {b:Nat×Nat} {l:Option (Nat×Nat)} {t:List Tk} (hb:b.2<=9) (hl:∀a,l=some a->a.2<=9) (hd:ks.drop i=tS 40::(spK b.1 b.2++tS 58::(mW l++t))) (hc:Bt ks (i+1+(spK b.1 b.2).length+1+(mW l).length)) (ht:l=none\/True):
  pk r tl nd ks ts i (b.2:Int) (l.map fun a=>(a.2:Int)) (i+1+(spK b.1 b.2).length+1+(mW l).length):=by
 have d1:=cA hd
 have d2:=bk d1
 have d3:=cA d2
 refine ⟨⟨i+1+(spK b.1 b.2).length,yV hb d1 (aY d2),aY d2,?_⟩,aY hd,?_⟩
 ·rcases l with _|a
  ·rfl
  ·obtain ⟨d,u,e⟩:=kX a.1 a.2
   refine ⟨?_,yV (hl a rfl) d3 hc⟩
   have d4:=d3
   rw [mW,e] at d4
   exact aY d4
 ·unfold isPart
  rw [aY hd,d1,tT,eR]
  rfl
theorem kZ {l:List (Bool×List Nat)}:∀{i:Nat} {t:List Tk},(∀a∈l,w3 a.2=true)->ks.drop i=qK l++t->(bu ks (i+(qK l).length) kW kOF=false/\bu ks (i+(qK l).length) kW kIN=false)->jA ks i (l.map (·.2)) (i+(qK l).length):=by
 induction l with
 |nil=>intro i t _ _ h;exact .nil i h.1 h.2
 |cons a l ih=>
  intro i t hg hd h
  have hl:i+(qK (a::l)).length=i+1+1+(qK l).length:=by rw [qK,List.length_cons,List.length_cons];omega
  rw [hl] at h⊢
  have d1:=cA hd
  have d2:=cA d1
  refine .cons (kw:=tW a.2) ?_ (bC d1 0) ?_ (ih (fun b hb=>hg b (by simp [hb])) d2 h)
  ·rw [aY hd,aY hd]
   rcases a.1 with _|_
   ·exact .inr rfl
   ·exact .inl rfl
  ·unfold dM
   rw [show ks[i+1]?=some (tW a.2) from bC d1 0]
   exact (Bool.true_and _).trans (hg a (by simp))
end
noncomputable def js (w:List Nat) (q:List (Bool×List Nat)) (ns:List (Nat×Nat)) (p:Option ((Nat×Nat)×Option (Nat×Nat))):List Tk:=tW w::(qK q++(jr ns++dS p))
def fN:Option ((Nat×Nat)×Option (Nat×Nat))->Prop
 |none=>True
 |some (b,l)=>b.2<=9/\∀a,l=some a->a.2<=9
theorem pR {ks:List Tk} {i:Nat} {ns:List (Nat×Nat)} {t:List Tk} (hd:ks.drop i=jr ns++t) (ht:ns=[]->t=[]\/∃u,t=tS 40::u):bu ks i kW kOF=false/\bu ks i kW kIN=false:=by
 rcases ns with _|⟨a,l⟩
 ·rcases ht rfl with rfl|⟨u,rfl⟩
  ·have hd:ks.drop i=[]:=hd
   exact ⟨fe hd,fe hd⟩
  ·have hd:ks.drop i=tS 40::u:=hd
   exact ⟨aY hd,aY hd⟩
 ·exact ⟨aY hd,aY hd⟩
theorem k7 (p:Option ((Nat×Nat)×Option (Nat×Nat))):dS p=[]\/∃u,dS p=tS 40::u:=by
 rcases p with _|q
 ·exact .inl rfl
 ·exact .inr ⟨_,rfl⟩
section
variable {r tl nd:Nat} {ks:List Tk} {ts:List V}
theorem tE {i:Nat} {ns:List (Nat×Nat)} {t:List Tk} (hs:fW ns) (hl:ns.length<=5) (hd:ks.drop i=jr ns++t) (ht:ns=[]->bu ks i kS [40]=false\/isPart ks i=true):yQ r tl nd ks ts i (nvs ns) (i+(jr ns).length):=by
 rcases ns with _|⟨a,l⟩
 ·exact .no i (ht rfl)
 ·have hd:ks.drop i=tS 40::((nsK (a::l)++[tS 41])++t):=hd
  rw [HT] at hd
  have d1:=cA hd
  have d2:=bk d1
  have hle:i+(jr (a::l)).length=i+1+(nsK (a::l)).length+1:=by rw [jr,List.length_cons,List.length_append];simp;omega
  have hsq:Seq r tl nd ks ts (i+1) (nvs (a::l)) (i+1+(nsK (a::l)).length):=ye hs d1 (aY d2)
  rw [hle]
  cases hsq with
  |cons e e2 tl'=>
   refine .some (aY hd) ?_ e tl' (by rw [on];simp at hl;omega) (aY d2)
   unfold isPart
   rw [aY hd,d1,tU,List.singleton_append,jW,mr];rfl
theorem wV {i:Nat} {p:Option ((Nat×Nat)×Option (Nat×Nat))} (hp:fN p) (hd:ks.drop i=dS p) (hi:i+(dS p).length=ks.length):sj r tl nd ks ts i (iG p) ks.length/\((∃u,dS p=tS 40::u)->isPart ks i=true):=by
 rcases p with _|q
 ·have hi:i=ks.length:=hi
  subst hi
  have hf:bu ks ks.length kS [40]=false:=fe hd
  exact ⟨.no _ (by unfold isPart;rw [hf];rfl),fun ⟨u,e⟩=>(nomatch e)⟩
 ·obtain ⟨b,l⟩:=q
  have d3:=bk (cA (bk (cA hd)))
  have hP:=pQ (r:=r) (tl:=tl) (nd:=nd) (ts:=ts) hp.1 hp.2 hd (aY d3) (.inr trivial)
  have hl:ks.length=i+1+(spK b.1 b.2).length+1+(mW l).length+1:=by rw [<-hi];simp only [dS,List.length_cons,List.length_append,List.length_nil];omega
  rw [hl]
  exact ⟨.some hP (aY d3),fun Z=>hP.h2⟩
end
theorem pN {w:List Nat} {q:List (Bool×List Nat)} {ns:List (Nat×Nat)} {p:Option ((Nat×Nat)×Option (Nat×Nat))}:(js w q ns p).length=1+(qK q).length+(jr ns).length+(dS p).length:=by
 unfold js;rw [List.length_cons,List.length_append,List.length_append];omega
theorem Fv {w:List Nat} {q:List (Bool×List Nat)} {ns:List (Nat×Nat)} {p:Option ((Nat×Nat)×Option (Nat×Nat))} (hw:w3 w=true) (hq:∀a∈q,w3 a.2=true) (hs:fW ns) (hl:ns.length<=5) (hp:fN p) (r tl nd:Nat) (ts:List V):Pz r tl nd (js w q ns p) ts w (q.map (·.2)) (nvs ns) (iG p):=by
 have d0:(js w q ns p).drop 1=qK q++(jr ns++dS p):=rfl
 have d1:=bk d0
 have d2:=bk d1
 obtain ⟨hP,hP2⟩:=wV (r:=r) (tl:=tl) (nd:=nd) (ts:=ts) hp d2 (by rw [pN])
 refine ⟨tW w,_,_,rfl,rfl,hw,kZ hq d0 (pR d1 fun Z=>k7 p),tE hs hl d1 (fun e=>?_),hP⟩
 subst e
 rcases k7 p with e|⟨u,e⟩
 ·exact .inl (fe (by rw [d1,e];rfl))
 ·exact .inr (hP2 ⟨u,e⟩)
theorem Gc {w:List Nat} {q:List (Bool×List Nat)} {ns:List (Nat×Nat)} {p:Option ((Nat×Nat)×Option (Nat×Nat))} (hw:w3 w=true) (hq:∀a∈q,w3 a.2=true) (hs:fW ns) (hl:ns.length<=5) (hp:fN p) (hne:ns≠[]\/p≠none) (r tl nd:Nat) (ts:List V):Cz r tl nd (js w q ns p).dropLast ts w (q.map (·.2)):=by
 rcases p with _|⟨b,l⟩
 ·obtain ⟨a,l,rfl⟩:∃a l,ns=a::l:=by
   rcases ns with _|⟨a,l⟩
   ·rcases hne with h|h<;>exact absurd rfl h
   ·exact ⟨a,l,rfl⟩
  have hk:(js w q (a::l) none).dropLast=tW w::(qK q++(tS 40::nsK (a::l))):=by
   have:js w q (a::l) none=(tW w::(qK q++(tS 40::nsK (a::l))))++[tS 41]:=by simp [js,jr,dS]
   rw [this,List.dropLast_concat]
  rw [hk]
  generalize hks:tW w::(qK q++(tS 40::nsK (a::l)))=ks
  have d0:ks.drop 1=qK q++(tS 40::nsK (a::l)):=by rw [<-hks];rfl
  have d1:=bk d0
  have d2:ks.drop (1+(qK q).length+1)=nsK (a::l)++[]:=by rw [th];exact cA d1
  have d3:=bk d2
  have hsq:Seq r tl nd ks ts (1+(qK q).length+1) (nvs (a::l)) (1+(qK q).length+1+(nsK (a::l)).length):=ye hs d2 (fe d3)
  have hn:ks[1+(qK q).length+1+(nsK (a::l)).length]?=none:=bC d3 0
  cases hsq with
  |cons e e2 t=>
   refine ⟨tW w,_,_,0,by rw [<-hks];rfl,rfl,?_,kZ hq d0 ⟨aY d1,aY d1⟩,.inl ⟨_,_,_,aY d1,?_,e,t,by rw [on];simp at hl;omega,hn⟩⟩
   ·rw [<-hks];exact hw
   ·unfold isPart
    rw [aY d1,d2,tU];rfl
 ·have hk:(js w q ns (some (b,l))).dropLast=tW w::(qK q++(jr ns++(tS 40::(spK b.1 b.2++tS 58::(mW l++[]))))):=by
   have:js w q ns (some (b,l))=(tW w::(qK q++(jr ns++(tS 40::(spK b.1 b.2++tS 58::(mW l++[]))))))++[tS 41]:=by simp [js,dS]
   rw [this,List.dropLast_concat]
  rw [hk]
  generalize hks:tW w::(qK q++(jr ns++(tS 40::(spK b.1 b.2++tS 58::(mW l++[])))))=ks
  have d0:ks.drop 1=qK q++(jr ns++(tS 40::(spK b.1 b.2++tS 58::(mW l++[])))):=by rw [<-hks];rfl
  have d1:=bk d0
  have d2:=bk d1
  have d3:=bk (cA (bk (cA d2)))
  have hP:=pQ (r:=r) (tl:=tl) (nd:=nd) (ts:=ts) hp.1 hp.2 d2 (fe d3) (.inr trivial)
  refine ⟨tW w,_,_,_,by rw [<-hks];rfl,rfl,?_,kZ hq d0 (pR d1 fun Z=>.inr ⟨_,rfl⟩),.inr ⟨_,_,_,tE hs hl d1 (fun e=>?_),hP,bC d3 0⟩⟩
  ·rw [<-hks];exact hw
  ·subst e;exact .inr hP.h2
end
section
noncomputable def w7 (w:List Nat):Bool:=match w with
 |[]=>false
 |c::r=>(w.all fun c=>subIn [cap c] WS)&&subIn [cap c] LT&&!subIn [cap c] FG&&!az (w.take 1) [46]&&!((w.map cap).filterMap fun c=>if subIn [c] LT then some (V.str [c]) else none).isEmpty&&
  (match aC (w.map cap) (-1) with|some z=>!az [z] [45]|none=>false)&&decide (w.length<=30)&&!az (w.map cap) [80,73,67]&&!az (w.map cap) [80,73,67,84,85,82,69]
theorem tz {w:List Nat} (h:w7 w=true):tf w:=by
 rcases w with _|⟨c,r⟩
 ·injection h
 ·unfold w7 at h
  simp only [Bool.and_eq_true,Bool.not_eq_true'] at h
  obtain ⟨⟨⟨⟨⟨⟨⟨⟨h1,h2⟩,h3⟩,h4⟩,h5⟩,h6⟩,h7⟩,h8⟩,h9⟩:=h
  refine ⟨fun c hc=>List.all_eq_true.1 h1 c hc,⟨c,r,rfl,h2,h3,h4⟩,h5,?_,of_decide_eq_true h7,h8,h9⟩
  revert h6
  rcases aC ((c::r).map cap) (-1) with _|z
  ·intro h6;injection h6
  ·intro h6;exact ⟨z,rfl,by simpa using h6⟩
noncomputable def spT:Nat->Nat->List Nat
 |1,v+1=>[48+v,32,43,32,49]
 |2,v=>[48,32,43,32,40,48+v,32,43,32,48,41]
 |_,v=>[48+v]
theorem tH (w v:Nat):(spK w v=[tN (48+v)]/\spT w v=[48+v])\/(∃u,v=u+1/\spK w v=[tN (48+u),tS 43,tN 49]/\spT w v=[48+u,32,43,32,49])\/(spK w v=[tN 48,tS 43,tS 40,tN (48+v),tS 43,tN 48,tS 41]/\spT w v=[48,32,43,32,40,48+v,32,43,32,48,41]):=by
 rcases w with _|_|_|w
 ·exact .inl ⟨rfl,rfl⟩
 ·rcases v with _|u
  ·exact .inl ⟨rfl,rfl⟩
  ·exact .inr (.inl ⟨u,rfl,rfl,rfl⟩)
 ·exact .inr (.inr ⟨rfl,rfl⟩)
 ·exact .inl ⟨rfl,rfl⟩
theorem jN {v:Nat} {t:List Nat} {k:List Tk} (hv:v<=9) (hb:bnd t) (h:Lx t k):Lx ((48+v)::t) (tN (48+v)::k):=.tok (s:=[48+v]) (.num _ (lO v hv).2) (.inr hb) h
theorem eE {c:Nat} {t:List Nat} {k:List Tk} (hc:c∈[40,41,43,58]) (h:Lx t k):Lx (c::t) (tS c::k):=.tok (s:=[c]) (.sign _ hc) (.inl rfl) h
theorem gJ {c:Nat} {t:List Nat} (hc:c∈[32,40,41,43,58]):bnd (c::t):=.inr ⟨c,t,rfl,hc⟩
theorem wd {w v:Nat} {t:List Nat} {k:List Tk} (hv:v<=9) (hb:bnd t) (h:Lx t k):Lx (spT w v++t) (spK w v++k):=by
 rcases tH w v with ⟨e1,e2⟩|⟨u,rfl,e1,e2⟩|⟨e1,e2⟩<;>rw [e1,e2]
 ·exact jN hv hb h
 ·exact jN (by omega) (gJ (by decide)) (.blank (eE (by decide) (.blank (jN (v:=1) (by omega) hb h))))
 ·exact jN (v:=0) (by omega) (gJ (by decide)) (.blank (eE (by decide) (.blank (eE (by decide) (jN hv (gJ (by decide)) (.blank (eE (by decide) (.blank (jN (v:=0) (by omega) (gJ (by decide)) (eE (by decide) h))))))))))
theorem BL {l:List (Nat×Nat)} {t:List Nat} {k:List Tk} (hs:fW l) (hb:bnd t) (h:Lx t k):Lx (cF [32] (l.map fun a=>spT a.1 a.2)++t) (nsK l++k):=by
 induction l with
 |nil=>exact h
 |cons a l ih=>
  have ih:=ih fun b hb=>hs b (by simp [hb])
  have ha:=hs a (by simp)
  rw [nsK,HT]
  rcases l with _|⟨b,l⟩
  ·exact wd ha hb h
  ·show Lx ((spT a.1 a.2++[32]++cF [32] ((b::l).map fun a=>spT a.1 a.2))++t) _
   rw [HT,HT]
   exact wd ha (gJ (by decide)) (.blank ih)
theorem FN {l:List (List Nat)} {t:List Nat} {k:List Tk} (hs:∀w∈l,w7 w=true) (hb:bnd t) (h:Lx t k):Lx (cF [32] l++t) (l.map (fun w=>tW (w.map cap))++k):=by
 induction l with
 |nil=>exact h
 |cons a l ih=>
  have ih:=ih fun b hb=>hs b (by simp [hb])
  have ha:=hs a (by simp)
  rcases l with _|⟨b,l⟩
  ·exact .tok (.word _ (tz ha)) (.inr hb) h
  ·show Lx ((a++[32]++cF [32] (b::l))++t) _
   rw [HT,HT]
   exact .tok (.word _ (tz ha)) (.inr (gJ (by decide))) (.blank ih)
noncomputable def lB (ns:List (Nat×Nat)) (t:List Nat):List Nat:=match ns with
 |[]=>t
 |a::l=>32::40::(cF [32] ((a::l).map fun a=>spT a.1 a.2)++41::t)
noncomputable def Ba:Option (Nat×Nat)->List Nat
 |none=>[]
 |some a=>32::spT a.1 a.2
noncomputable def i6 (b:Nat×Nat) (l:Option (Nat×Nat)):List Nat:=32::40::(spT b.1 b.2++32::58::Ba l)
theorem sM {ns:List (Nat×Nat)} {t:List Nat} {k:List Tk} (hs:fW ns) (h:Lx t k):Lx (lB ns t) (jr ns++k):=by
 rcases ns with _|⟨a,l⟩
 ·exact h
 ·show Lx _ (tS 40::(nsK (a::l)++[tS 41])++k)
  rw [List.cons_append,HT]
  exact .blank (eE (by decide) (BL hs (gJ (by decide)) (eE (by decide) h)))
theorem u9 {b:Nat×Nat} {l:Option (Nat×Nat)} {t:List Nat} {k:List Tk} (hb:b.2<=9) (hl:∀a,l=some a->a.2<=9) (hbd:bnd t) (h:Lx t k):Lx (i6 b l++t) (tS 40::(spK b.1 b.2++tS 58::(mW l++k))):=by
 show Lx (32::40::((spT b.1 b.2++32::58::Ba l)++t)) _
 rw [HT]
 refine .blank (eE (by decide) (wd hb (gJ (by decide)) (.blank (eE (by decide) ?_))))
 rcases l with _|a
 ·exact h
 ·exact .blank (wd (hl a rfl) hbd h)
end
section
noncomputable def s8:Option It->List Nat
 |none=>[]
 |some x=>ky x
noncomputable def Hd.ok (H:Hd):Bool:=(H.ws.all w7)&&decide (H.ws.map (fun w=>tW (w.map cap))=tW H.name::qK H.ql)&&w3 H.name&&(H.ql.all fun a=>w3 a.2)&&decide (H.who=s8 H.it)&&decide (H.many<=2)&&decide (H.ql.length<=9)&&decide (H.name.length<=30/\H.txt.length<=30)&&(H.ql.all fun a=>decide (a.2.length<=30))&&
 (match H.it with|some x=>decide ((et x).length=H.many)|none=>true)
theorem Gy:∀H∈HL,H.ok=true:=by decide +kernel
structure yR (H:Hd):Prop where
 lx:∀{t:List Nat} {k:List Tk},bnd t->Lx t k->Lx (H.txt++t) (tW H.name::(qK H.ql++k))
 gw:w3 H.name=true
 gq:∀a∈H.ql,w3 a.2=true
 who:H.who=s8 H.it
 many:H.many<=2
 ql:H.ql.length<=9
 nl:H.name.length<=30/\H.txt.length<=30
 qn:∀a∈H.ql,a.2.length<=30
 find:jR H.name (H.ql.map (·.2)) H.it
theorem yX {H:Hd} (h:H∈HL):yR H:=by
 have q:=Ap H h
 have h:=Gy H h
 unfold Hd.ok at h
 simp only [Bool.and_eq_true] at h
 obtain ⟨⟨⟨⟨⟨⟨⟨⟨⟨h1,h2⟩,h3⟩,h4⟩,h5⟩,h6⟩,h7⟩,h8⟩,h9⟩,h10⟩:=h
 refine ⟨fun {t} {k} hb hx=>?_,h3,fun a ha=>List.all_eq_true.1 h4 a ha,of_decide_eq_true h5,of_decide_eq_true h6,of_decide_eq_true h7,of_decide_eq_true h8,fun a ha=>of_decide_eq_true (List.all_eq_true.1 h9 a ha),q⟩
 have z:=FN (fun w hw=>List.all_eq_true.1 h1 w hw) hb hx
 rw [of_decide_eq_true h2] at z
 exact z
noncomputable def vU (H:Hd) (ns:List (Nat×Nat)) (p:Option ((Nat×Nat)×Option (Nat×Nat))):List Nat:=H.txt++lB ns (match p with|none=>[]|some (b,l)=>i6 b l++[41])
theorem nQ {ns:List (Nat×Nat)} {t:List Nat} (h:bnd t):bnd (lB ns t):=by
 rcases ns with _|⟨a,l⟩
 ·exact h
 ·exact gJ (by decide)
theorem CO {H:Hd} {ns:List (Nat×Nat)} {p:Option ((Nat×Nat)×Option (Nat×Nat))} (h:yR H) (hs:fW ns) (hp:fN p):Lx (vU H ns p) (js H.name H.ql ns p):=by
 unfold vU js
 rcases p with _|q
 ·exact h.lx (nQ (.inl rfl)) (sM hs .nil)
 ·obtain ⟨b,l⟩:=q
  exact h.lx (nQ (gJ (by decide))) (sM hs (u9 hp.1 hp.2 (gJ (by decide)) (eE (by decide) .nil)))
theorem CP {H:Hd} {ns:List (Nat×Nat)} {p:Option ((Nat×Nat)×Option (Nat×Nat))} (h:yR H) (hs:fW ns) (hp:fN p) (hne:ns≠[]\/p≠none):∃T,vU H ns p=T++[41]/\Lx T (js H.name H.ql ns p).dropLast:=by
 rcases p with _|⟨b,l⟩
 ·obtain ⟨a,l,rfl⟩:∃a l,ns=a::l:=by
   rcases ns with _|⟨a,l⟩
   ·rcases hne with h|h<;>exact absurd rfl h
   ·exact ⟨a,l,rfl⟩
  refine ⟨H.txt++(32::40::cF [32] ((a::l).map fun a=>spT a.1 a.2)),by simp [vU,lB],?_⟩
  have:js H.name H.ql (a::l) none=(tW H.name::(qK H.ql++(tS 40::nsK (a::l))))++[tS 41]:=by simp [js,jr,dS]
  rw [this,List.dropLast_concat]
  refine h.lx (gJ (by decide)) (.blank (eE (by decide) ?_))
  have z:=BL (l:=a::l) (t:=[]) (k:=[]) hs (.inl rfl) .nil
  rw [th,th] at z
  exact z
 ·refine ⟨H.txt++lB ns (i6 b l),?_,?_⟩
  ·rcases ns with _|_<;>simp [vU,lB]
  ·have:js H.name H.ql ns (some (b,l))=(tW H.name::(qK H.ql++(jr ns++(tS 40::(spK b.1 b.2++tS 58::(mW l++[]))))))++[tS 41]:=by simp [js,dS]
   rw [this,List.dropLast_concat]
   refine h.lx (nQ (gJ (by decide))) (sM hs ?_)
   have z:=u9 (t:=[]) (k:=[]) hp.1 hp.2 (.inl rfl) .nil
   rw [th] at z
   exact z
end
section
noncomputable def kL (w:List Nat) (as:List Int):Key:=.t (.s w::as.map .i)
theorem cX {w w':List Nat} {as as':List Int} (h:kL w as=kL w' as'):w=w'/\as=as':=by
 unfold kL at h
 injection h with h
 injection h with h1 h2
 injection h1 with h1
 exact ⟨h1,(List.map_inj_right (f:=FK.i) (fun a b e=>by injection e)).1 h2⟩
theorem bp {k k':Key} {v:V} {es:List (Key×V)}:(dictSet k v es).lookup k'=if k'=k then some v else es.lookup k':=by
 have a:∀es:List (Key×V),(es.map fun e=>if e.1=k then (e.1,v) else e).lookup k'=if k'=k then (es.lookup k').map (fun Z=>v) else es.lookup k':=by
  intro es
  induction es with
  |nil=>by_cases h:k'=k<;>simp [h]
  |cons e r ih=>
   (rewrite +offsetCnstrs [List.map_cons,so];try with_reducible rfl)
   by_cases h:k'=k
   ·subst h
    rw [if_pos rfl] at ih⊢
    by_cases h2:e.1=k'
    ·(rewrite +offsetCnstrs [if_pos h2,so];try with_reducible rfl);simp [h2]
    ·(rewrite +offsetCnstrs [if_neg h2,ih,so,show (k'==e.1)=false by simpa using fun q=>h2 q.symm];try with_reducible rfl)
   ·rw [if_neg h] at ih⊢
    by_cases h2:e.1=k
    ·(rewrite +offsetCnstrs [if_pos h2,ih,so];try with_reducible rfl)
     simp only [h2,show (k'==k)=false by simpa using h]
    ·(rewrite +offsetCnstrs [if_neg h2,ih,so];try with_reducible rfl)
 have b:∀es:List (Key×V),es.lookup k=none->(es++[(k,v)]).lookup k'=if k'=k then some v else es.lookup k':=by
  intro es
  induction es with
  |nil=>
   intro _
   (rewrite +offsetCnstrs [List.nil_append,so];try with_reducible rfl)
   by_cases h:k'=k
   ·simp [h]
   ·simp [h,show (k'==k)=false by simpa using h]
  |cons e r ih=>
   intro hn
   rw [so] at hn
   by_cases h2:k=e.1
   ·rw [show (k==e.1)=true by simpa using h2] at hn;injection hn
   ·rw [show (k==e.1)=false by simpa using h2] at hn
    (rewrite +offsetCnstrs [List.cons_append,so,ih hn,so];try with_reducible rfl)
    by_cases h:k'=k
    ·subst h
     (rewrite +offsetCnstrs [show (k'==e.1)=false by simpa using h2,if_pos rfl];try with_reducible rfl)
    ·(rewrite +offsetCnstrs [if_neg h,if_neg h];try with_reducible rfl)
 unfold dictSet
 by_cases h:(es.lookup k).isSome=true
 ·(rewrite +offsetCnstrs [if_pos h,a];try with_reducible rfl)
  by_cases h2:k'=k
  ·subst h2
   (rewrite +offsetCnstrs [if_pos rfl,if_pos rfl];try with_reducible rfl)
   obtain ⟨u,hu⟩:=Option.isSome_iff_exists.1 h
   (rewrite +offsetCnstrs [hu];try with_reducible rfl);rfl
  ·(rewrite +offsetCnstrs [if_neg h2,if_neg h2];try with_reducible rfl)
 ·(rewrite +offsetCnstrs [if_neg h,b es (Option.not_isSome_iff_eq_none.1 h)];try with_reducible rfl)
theorem lN (w:Nat) (a:List Int):kT w a=kL [w] a:=rfl
theorem jb {one l:Int} {k:Nat} {s:List (Key×V)×Int}:(cc one l k s).2=s.2+k*l:=by
 induction k with
 |zero=>simp [show cc one l 0 s=s from rfl]
 |succ k ih=>rw [lf,ih,Int.natCast_succ,Int.add_mul,Int.one_mul];omega
theorem fq {one l:Int} {k:Nat} {s:List (Key×V)×Int} {w:List Nat} {as:List Int} (h:∀b:Int,1<=b->b<=k->(w=[85]\/w=[66])->as≠[one,b]):(cc one l k s).1.lookup (kL w as)=s.1.lookup (kL w as):=by
 induction k with
 |zero=>rfl
 |succ k ih=>
  have n1:kL w as≠kL [66] [one,1+(k:Int)]:=fun e=>by
   obtain ⟨e1,e2⟩:=cX e;exact h _ (by omega) (by omega) (.inr e1) e2
  have n2:kL w as≠kL [85] [one,1+(k:Int)]:=fun e=>by
   obtain ⟨e1,e2⟩:=cX e;exact h _ (by omega) (by omega) (.inl e1) e2
  rw [lf]
  show (dictSet (kL [66] _) _ (dictSet (kL [85] _) _ _)).lookup _=_
  rw [bp,if_neg n1,bp,if_neg n2]
  exact ih fun b h1 h2=>h b h1 (by omega)
theorem vq {one l b:Int} {k:Nat} {s:List (Key×V)×Int} {w:List Nat} (hw:w=[85]\/w=[66]) (h1:1<=b) (h2:b<=k):(cc one l k s).1.lookup (kL w [one,b])=some (.tup [.int (s.2+(b - 1)*l),.int l]):=by
 induction k with
 |zero=>omega
 |succ k ih=>
  rw [lf]
  show (dictSet (kL [66] [one,1+(k:Int)]) (.tup [.int (cc one l k s).2,.int l]) (dictSet (kL [85] [one,1+(k:Int)]) (.tup [.int (cc one l k s).2,.int l]) _)).lookup _=_
  rw [bp,bp,jb]
  by_cases hb:b=1+(k:Int)
  ·subst hb
   rw [show (1+(k:Int) - 1)=k by omega]
   rcases hw with rfl|rfl
   ·rw [if_neg (fun e=>by have:=(cX e).1;exact absurd this (by decide)),if_pos rfl]
   ·rw [if_pos rfl]
  ·rw [if_neg (fun e=>by have:=(cX e).2;simp at this;omega),if_neg (fun e=>by have:=(cX e).2;simp at this;omega)]
   exact ih (by omega)
theorem gp {m:Nat} {f l:Int} {k:Nat}:(bM m f l k ([],3)).2=3+k*(f+m*l):=by
 induction k with
 |zero=>simp [show bM m f l 0 ([],3)=([],3) from rfl]
 |succ k ih=>
  rw [gb]
  dsimp only
  rw [jb,ih,Int.natCast_succ,Int.add_mul _ _ (f+_),Int.one_mul]
  dsimp only
  omega
theorem aO {m:Nat} {f l:Int} {k:Nat} {w:List Nat} {as:List Int} (h1:∀a:Int,1<=a->a<=k->(w=[65]\/w=[84])->as≠[a]) (h2:∀a b:Int,1<=a->a<=k->1<=b->b<=m->(w=[85]\/w=[66])->as≠[a,b]):(bM m f l k ([],3)).1.lookup (kL w as)=none:=by
 induction k with
 |zero=>rfl
 |succ k ih=>
  rw [gb]
  dsimp only
  rw [lN,lN,bp,if_neg (fun e=>by obtain ⟨e1,e2⟩:=cX e;exact h1 _ (by omega) (by omega) (.inr e1) e2),fq (fun b hb1 hb2 hw=>h2 _ b (by omega) (by omega) hb1 hb2 hw),bp,if_neg (fun e=>by obtain ⟨e1,e2⟩:=cX e;exact h1 _ (by omega) (by omega) (.inl e1) e2)]
  exact ih (fun a ha1 ha2=>h1 a ha1 (by omega)) (fun a b ha1 ha2=>h2 a b ha1 (by omega))
theorem zK {m:Nat} {f l a:Int} {k:Nat} (h1:1<=a) (h2:a<=k):(bM m f l k ([],3)).1.lookup (kL [65] [a])=some (.tup [.int (3+(a - 1)*(f+m*l)),.int f]):=by
 induction k with
 |zero=>omega
 |succ k ih=>
  rw [gb]
  dsimp only
  rw [lN,lN,bp,if_neg (fun e=>by have:=(cX e).1;exact absurd this (by decide)),fq (fun b Z Z hw=>by rcases hw with e|e<;>exact absurd e (by decide)),bp]
  by_cases ha:a=1+(k:Int)
  ·subst ha
   rw [if_pos rfl,gp,show (1+(k:Int) - 1)=k by omega]
  ·rw [if_neg (fun e=>by have:=(cX e).2;simp at this;omega)]
   exact ih (by omega)
theorem zJ {m:Nat} {f l a:Int} {k:Nat} (h1:1<=a) (h2:a<=k):(bM m f l k ([],3)).1.lookup (kL [84] [a])=some (.tup [.int (3+(a - 1)*(f+m*l)),.int (f+m*l)]):=by
 induction k with
 |zero=>omega
 |succ k ih=>
  rw [gb]
  dsimp only
  rw [lN,lN,bp]
  by_cases ha:a=1+(k:Int)
  ·subst ha
   rw [if_pos rfl,jb]
   dsimp only
   rw [gp,show (1+(k:Int) - 1)=k by omega,show (3+(k:Int)*(f+m*l)+f+m*l - (3+(k:Int)*(f+m*l)))=f+m*l by omega]
  ·rw [if_neg (fun e=>by have:=(cX e).2;simp at this;omega),fq (fun b Z Z hw=>by rcases hw with e|e<;>exact absurd e (by decide)),bp,if_neg (fun e=>by have:=(cX e).1;exact absurd this (by decide))]
   exact ih (by omega)
theorem zI {m:Nat} {f l a b:Int} {k:Nat} {w:List Nat} (hw:w=[85]\/w=[66]) (h1:1<=a) (h2:a<=k) (h3:1<=b) (h4:b<=m):(bM m f l k ([],3)).1.lookup (kL w [a,b])=some (.tup [.int (3+(a - 1)*(f+m*l)+f+(b - 1)*l),.int l]):=by
 induction k with
 |zero=>omega
 |succ k ih=>
  rw [gb]
  dsimp only
  have n1:w≠[84]:=by rcases hw with rfl|rfl<;>decide
  have n2:w≠[65]:=by rcases hw with rfl|rfl<;>decide
  rw [lN,lN,bp,if_neg (fun e=>n1 (cX e).1)]
  by_cases ha:a=1+(k:Int)
  ·subst ha
   rw [vq hw h3 h4]
   dsimp only
   rw [gp,show (1+(k:Int) - 1)=k by omega]
  ·rw [fq (fun b' Z Z Z e=>by simp at e;omega),bp,if_neg (fun e=>n2 (cX e).1)]
   exact ih (by omega)
noncomputable def iE (f l:Int) (m k:Nat):It->Int
 |.U=>3+f|.B=>3+f|.H=>3+k*(f+m*l)|.X=>3+k*(f+m*l)|_=>3
noncomputable def bI (f l:Int) (m k:Nat):It->Int
 |.G=>k*(f+m*l)|.T=>f+m*l|.A=>f|.U=>l|.B=>l|_=>4
noncomputable def ozV (o:Int×Int):V:=.tup [.int o.1,.int o.2]
theorem o4 {m k:Nat} {f l:Int} {w:List Nat} {as:List Int}:(b6 k m f l).lookup (kL w as)=if kL w as=kL [72,65] [] then some (.tup [.int (3+k*(f+m*l)),.int 4]) else if kL w as=kL [72] [] then some (.tup [.int (3+k*(f+m*l)),.int 4]) else if kL w as=kL [71] [] then some (.tup [.int 3,.int (k*(f+m*l))]) else (bM m f l k ([],3)).1.lookup (kL w as):=by
 unfold b6
 dsimp only
 rw [gp,show (3+(k:Int)*(f+m*l) - 3)=k*(f+m*l) by omega]
 show (dictSet (kL [72,65] []) _ (dictSet (kL [72] []) _ (dictSet (kL [71] []) _ _))).lookup _=_
 rw [bp,bp,bp]
theorem mh {m k:Nat} {f l:Int} {x:It} {vs:List Int} {w:List Nat} (hw:w=[85]\/w=[66]) (ht:et x=[.T,.U]) (ho:iE f l m k x=3+f) (hs:bI f l m k x=l) (hl:(et x).length=2):(bM m f l k ([],3)).1.lookup (kL w vs)=(if vs.length=(et x).length then (lH (bI f l m k) (ft m k) (et x) vs (iE f l m k x)).bind fun o=>lC (bI f l m k x) o none else none).map ozV:=by
 rw [ht,ho,hs]
 have no1:∀a:Int,1<=a->a<=k->(w=[65]\/w=[84])->vs≠[a]:=fun Z Z Z h=>by rcases hw with rfl|rfl<;>rcases h with h|h<;>exact absurd h (by decide)
 rcases vs with _|⟨a,_|⟨b,_|⟨c,r⟩⟩⟩
 ·rw [aO no1 (fun Z Z Z Z Z Z Z e=>by injection e)];rfl
 ·rw [aO no1 (fun Z Z Z Z Z Z Z e=>by cases e)];rfl
 ·rw [if_pos (show [a,b].length=[It.T,It.U].length from rfl)]
  show _=((if 1<=a/\a<=(k:Int) then (if 1<=b/\b<=(m:Int) then some (3+f+(a - 1)*(f+m*l)+(b - 1)*l) else none) else none).bind _:Option (Int×Int)).map ozV
  by_cases h:1<=a/\a<=(k:Int)
  ·by_cases h2:1<=b/\b<=(m:Int)
   ·rw [zI hw h.1 h.2 h2.1 h2.2,if_pos h,if_pos h2,show 3+(a - 1)*(f+m*l)+f+(b - 1)*l=3+f+(a - 1)*(f+m*l)+(b - 1)*l by omega];rfl
   ·rw [aO no1 (fun Z Z Z Z h3 h4 Z e=>by cases e;exact h2 ⟨h3,h4⟩),if_pos h,if_neg h2];rfl
  ·rw [aO no1 (fun Z Z h3 h4 Z Z Z e=>by cases e;exact h ⟨h3,h4⟩),if_neg h];rfl
 ·rw [aO no1 (fun Z Z Z Z Z Z Z e=>by cases e),if_neg (show ¬(a::b::c::r).length=[It.T,It.U].length from fun e=>absurd (show r.length+1+1+1=2 from e) (by omega))];rfl
theorem j6 {m k:Nat} {f l:Int} (x:It) (vs:List Int):(b6 k m f l).lookup (kL (ky x) vs)=(cO (iE f l m k) (bI f l m k) (ft m k) x vs none).map ozV:=by
 have nk:∀{w w':List Nat} {as:List Int},w≠w'->kL w as≠kL w' []:=fun h e=>h (cX e).1
 have one:∀{w:List Nat} {as:List Int},as≠[]->kL w as≠kL w []:=fun h e=>h (cX e).2
 rw [o4]
 unfold cO
 rcases x with _|_|_|_|_|_|_
 ·show (if kL [71] vs=_ then _ else if kL [71] vs=_ then _ else if kL [71] vs=_ then _ else (bM m f l k ([],3)).1.lookup (kL [71] vs))=_
  rw [if_neg (nk (by decide)),if_neg (nk (by decide))]
  rcases vs with _|⟨a,r⟩
  ·rw [if_pos rfl];rfl
  ·rw [if_neg (one (by simp)),aO (fun Z Z Z h=>by rcases h with h|h<;>exact absurd h (by decide)) (fun Z Z Z Z Z Z h=>by rcases h with h|h<;>exact absurd h (by decide))];rfl
 ·show (if kL [84] vs=_ then _ else if kL [84] vs=_ then _ else if kL [84] vs=_ then _ else (bM m f l k ([],3)).1.lookup (kL [84] vs))=_
  rw [if_neg (nk (by decide)),if_neg (nk (by decide)),if_neg (nk (by decide))]
  rcases vs with _|⟨a,_|⟨b,r⟩⟩
  ·rw [aO (fun Z Z Z Z e=>by injection e) (fun Z Z Z Z Z Z h=>by rcases h with h|h<;>exact absurd h (by decide))];rfl
  ·by_cases h:1<=a/\a<=(k:Int)
   ·rw [zJ h.1 h.2]
    show _=((if 1<=a/\a<=(k:Int) then some (3+(a - 1)*(f+m*l)) else none).bind _:Option (Int×Int)).map ozV
    rw [if_pos h];rfl
   ·rw [aO (fun c h1 h2 Z e=>by cases e;exact h ⟨h1,h2⟩) (fun Z Z Z Z Z Z h=>by rcases h with h|h<;>exact absurd h (by decide))]
    show _=((if 1<=a/\a<=(k:Int) then some (3+(a - 1)*(f+m*l)) else none).bind _:Option (Int×Int)).map ozV
    rw [if_neg h];rfl
  ·rw [aO (fun Z Z Z Z e=>by cases e) (fun Z Z Z Z Z Z h=>by rcases h with h|h<;>exact absurd h (by decide)),if_neg (show ¬(a::b::r).length=(et It.T).length from fun e=>absurd (show r.length+1+1=1 from e) (by omega))];rfl
 ·show (if kL [65] vs=_ then _ else if kL [65] vs=_ then _ else if kL [65] vs=_ then _ else (bM m f l k ([],3)).1.lookup (kL [65] vs))=_
  rw [if_neg (nk (by decide)),if_neg (nk (by decide)),if_neg (nk (by decide))]
  rcases vs with _|⟨a,_|⟨b,r⟩⟩
  ·rw [aO (fun Z Z Z Z e=>by injection e) (fun Z Z Z Z Z Z h=>by rcases h with h|h<;>exact absurd h (by decide))];rfl
  ·by_cases h:1<=a/\a<=(k:Int)
   ·rw [zK h.1 h.2]
    show _=((if 1<=a/\a<=(k:Int) then some (3+(a - 1)*(f+m*l)) else none).bind _:Option (Int×Int)).map ozV
    rw [if_pos h];rfl
   ·rw [aO (fun c h1 h2 Z e=>by cases e;exact h ⟨h1,h2⟩) (fun Z Z Z Z Z Z h=>by rcases h with h|h<;>exact absurd h (by decide))]
    show _=((if 1<=a/\a<=(k:Int) then some (3+(a - 1)*(f+m*l)) else none).bind _:Option (Int×Int)).map ozV
    rw [if_neg h];rfl
  ·rw [aO (fun Z Z Z Z e=>by cases e) (fun Z Z Z Z Z Z h=>by rcases h with h|h<;>exact absurd h (by decide)),if_neg (show ¬(a::b::r).length=(et It.A).length from fun e=>absurd (show r.length+1+1=1 from e) (by omega))];rfl
 ·show (if kL [85] vs=_ then _ else if kL [85] vs=_ then _ else if kL [85] vs=_ then _ else (bM m f l k ([],3)).1.lookup (kL [85] vs))=_
  rw [if_neg (nk (by decide)),if_neg (nk (by decide)),if_neg (nk (by decide))]
  exact mh (.inl rfl) rfl rfl rfl rfl
 ·show (if kL [66] vs=_ then _ else if kL [66] vs=_ then _ else if kL [66] vs=_ then _ else (bM m f l k ([],3)).1.lookup (kL [66] vs))=_
  rw [if_neg (nk (by decide)),if_neg (nk (by decide)),if_neg (nk (by decide))]
  exact mh (.inr rfl) rfl rfl rfl rfl
 ·show (if kL [72] vs=_ then _ else if kL [72] vs=_ then _ else if kL [72] vs=_ then _ else (bM m f l k ([],3)).1.lookup (kL [72] vs))=_
  rw [if_neg (nk (by decide))]
  rcases vs with _|⟨a,r⟩
  ·rw [if_pos rfl];rfl
  ·rw [if_neg (one (by simp)),if_neg (nk (by decide)),aO (fun Z Z Z h=>by rcases h with h|h<;>exact absurd h (by decide)) (fun Z Z Z Z Z Z h=>by rcases h with h|h<;>exact absurd h (by decide))];rfl
 ·show (if kL [72,65] vs=_ then _ else if kL [72,65] vs=_ then _ else if kL [72,65] vs=_ then _ else (bM m f l k ([],3)).1.lookup (kL [72,65] vs))=_
  rcases vs with _|⟨a,r⟩
  ·rw [if_pos rfl];rfl
  ·rw [if_neg (one (by simp)),if_neg (nk (by decide)),if_neg (nk (by decide)),aO (fun Z Z Z h=>by rcases h with h|h<;>exact absurd h (by decide)) (fun Z Z Z Z Z Z h=>by rcases h with h|h<;>exact absurd h (by decide))];rfl
end
section
theorem cY.far {t c:Nat} {K:Int} {h:H} {j:Nat} {o:O} (T:cY t c K h) (g:h[j]?=some o) (h1:∀(a:Nat) (k:Int),o≠.list [.ref a,.int k]) (h2:∀xs:List Int,xs≠[]->o≠.list (xs.map .int)):j≠t/\j≠c:=by
 obtain ⟨k,xs,-,-,e1,e2,l,-⟩:=T.at_
 constructor
 ·rintro rfl;rw [e1] at g;(injection g with g;subst g);exact h1 _ _ rfl
 ·rintro rfl;rw [e2] at g;(injection g with g;subst g);exact h2 xs (by rintro rfl;simp at l) rfl
section
variable {D:DAd} {off size high:It->Int} {t c sd:Nat} {K:Int} {es:List (Key×V)} {h h':H}
theorem qb (xs:List Int):Fix (.list (xs.map .int)):=fun d=>congrArg O.list (List.map_map.trans rfl)
theorem DH.tp {K':Int} (S:DH D off size high h) (T:cY 1 0 K' h') (G:Tp 1 0 h h'):DH D off size high h':=by
 obtain ⟨e,o0,o1,o2,g,f0,f1,f2,rfl⟩:=S
 obtain ⟨k,xs,-,-,g1,g0,-⟩:=T.at_
 have X:Ex (Bs (.list (xs.map .int)) (.list [.ref 0,.int k]) o2 off size high++[]) h':=fun j o ej=>by
  match j with
  |0=>(injection ej with ej;subst ej);exact g0
  |1=>(injection ej with ej;subst ej);exact g1
  |j+2=>exact G (j+2) o (by omega) (by omega) (ax (h:=Bs o0 o1 o2 off size high) (by rw [th] at ej;exact ej))
 obtain ⟨g',e'⟩:=yD X
 exact ⟨e,_,_,o2,g',qb xs,fun d=>rfl,f2,e'⟩
structure TW (t c sd:Nat) (K:Int) (es:List (Key×V)) (D:DAd) (off size high:It->Int) (h:H):Prop where
 tape:cY t c K h
 data:DH D off size high h
 spots:h[sd]?=some (.dict es)
 tc:t=1/\c=0
theorem TW.ex (W:TW t c sd K es D off size high h) (X:Ex h h'):TW t c sd K es D off size high h':=⟨W.tape.keep X,W.data.keep X,X _ _ W.spots,W.tc⟩
theorem TW.tp {K':Int} (W:TW t c sd K es D off size high h) (T:cY t c K' h') (G:Tp t c h h'):TW t c sd K' es D off size high h':=by
 obtain ⟨n1,n2⟩:=W.tape.far W.spots (fun Z Z e=>by injection e) (fun Z Z e=>by injection e)
 obtain ⟨rfl,rfl⟩:=W.tc
 exact ⟨T,W.data.tp T G,G _ _ n1 n2 W.spots,rfl,rfl⟩
theorem TW.up {K':Int} (W:TW t c sd K es D off size high h) (g:K<=K') (g2:K' < 1000):TW t c sd K' es D off size high h:=⟨W.tape.up g g2,W.data,W.spots,W.tc⟩
theorem i7 {n:Nat} {l:Int} (W:TW t c sd K es D off size high h) (hl:0 < l/\l<=14) (hK:K < 999):∃(r:Int) (h':H),a9 PT0 1000 (n+1) (.fn 793) [.ref t,.int l] h=.ok (.int r) h'/\0<=r/\r < l/\TW t c sd (K+1) es D off size high h'/\Tp t c h h':=by
 obtain ⟨r,h',e,r0,r1,T',G⟩:=Gb (n:=n) W.tape hl hK
 exact ⟨r,h',e,r0,r1,W.tp T' G,G⟩
theorem qe:∀v:Nat,v<=9->iJ (v:Int)=some [48+v]:=by
 intro v hv
 have:∀v:Fin 10,iJ (v.1:Int)=some [48+v.1]:=by decide
 exact this ⟨v,by omega⟩
theorem gX {n v:Nat} (W:TW t c sd K es D off size high h) (hv:v<=9) (hK:K < 999):∃(w:Nat) (h':H),a9 PT0 1000 (n+2) (.fn 840) [.ref t,.int (v:Int)] h=.ok (.str (spT w v)) h'/\TW t c sd (K+1) es D off size high h'/\Tp t c h h':=by
 obtain ⟨r,h',e,r0,r1,W',G⟩:=i7 (n:=n) (l:=4) W (by decide) hK
 have s1:iJ (v:Int)=some [48+v]:=qe v hv
 by_cases h2:r=2
 ·refine ⟨2,h',af rfl rfl ?_,W',G⟩
  have n1:¬r=1:=by omega
  have l1:([48,32,43,32,40]:List Nat).length+[48+v].length<=100000:=by simp
  have l2:(([48,32,43,32,40]:List Nat)++[48+v]).length+([32,43,32,48,41]:List Nat).length<=100000:=by simp
  show _=R.ok (V.str ((([48,32,43,32,40]:List Nat)++[48+v])++[32,43,32,48,41])) h'
  delta Bj
  exact HZ
 ·by_cases h1:r=1/\0 < v
  ·obtain ⟨u,rfl⟩:∃u,v=u+1:=exa (by omega)
   refine ⟨1,h',af rfl rfl ?_,W',G⟩
   have q1:=h1.1
   have s2:iJ (((u+1:Nat):Int) - 1)=some [48+u]:=(by rw [show ((u+1:Nat):Int) - 1=(u:Int) by omega];exact qe u (by omega))
   have g0:(((u+1:Nat):Int)) > 0:=by omega
   have l1:[48+u].length+([32,43,32,49]:List Nat).length<=100000:=by simp
   show _=R.ok (V.str ([48+u]++([32,43,32,49]:List Nat))) h'
   delta Bj
   exact HZ
  ·refine ⟨0,h',af rfl rfl ?_,W',G⟩
   show _=R.ok (V.str [48+v]) h'
   delta Bj
   by_cases q1:r=1
   ·have g0:¬((v:Nat):Int) > 0:=fun g=>h1 ⟨q1,by omega⟩
    exact HZ
   ·exact HZ
theorem qi {α:Type} {nx:Nat->H->Option (Option V)} {el:V->PM (Option V)} {f:α->V} {xs:List α} {J:Nat->List V->H->Prop}
  (hn:∀i acc h,J i acc h->nx i h=some ((xs.map f)[i]?)) (he:∀(i:Nat) (x:α) acc h,xs[i]?=some x->J i acc h->∃v h',el (f x) h=.ok (some v) h'/\J (i+1) (acc++[v]) h'):
  ∀m i acc h,xs.length<=m+i->i<=xs.length->J i acc h->∃acc' h',bN nx el (m+1) i acc h=.ok acc' h'/\J xs.length acc' h':=by
 intro m
 induction m with
 |zero=>
  intro i acc h hl hi j
  obtain rfl:i=xs.length:=by omega
  exact ⟨acc,h,by rw [gT ((hn _ acc h j).trans (by rw [HQ (by simp)]))],j⟩
 |succ m ih=>
  intro i acc h hl hi j
  by_cases hi2:i < xs.length
  ·have hx:xs[i]?=some xs[i]:=HJ hi2
   obtain ⟨v,h',e,j'⟩:=he i _ acc h hx j
   obtain ⟨acc',h'',e2,j''⟩:=ih (i+1) (acc++[v]) h' (by omega) (by omega) j'
   refine ⟨acc',h'',lh ((hn i acc h j).trans (by rw [List.getElem?_map,hx];rfl)) e e2,j''⟩
  ·obtain rfl:i=xs.length:=by omega
   exact ⟨acc,h,by rw [gT ((hn _ acc h j).trans (by rw [HQ (by simp)]))],j⟩
end
end
section
noncomputable abbrev ivs (vs:List Nat):List V:=vs.map fun (v:Nat)=>V.int (v:Int)
noncomputable def Eg:PE:=.comp (.bin .Sub (.bin .Add (.call (.stat (.fn 793)) [.loc 115,.int (3)]) (.int (1))) (.bin .FloorDiv (.call (.stat (.fn 793)) [.loc 115,.int (5)]) (.int (4)))) 118 (.call (.stat (.bt .range)) [.loc 124]) (.bool true)
noncomputable def Ee:PE:=.comp (.call (.stat (.fn 840)) [.loc 115,.loc 94]) 94 (.loc 98) (.bool true)
section
variable {D:DAd} {off size high:It->Int} {t c sd:Nat} {K:Int} {es:List (Key×V)} {h h':H}
theorem wY:∀x < 3,∀y < 5,0<=((x:Nat):Int)+1 - Int.fdiv ((y:Nat):Int) 4/\((x:Nat):Int)+1 - Int.fdiv ((y:Nat):Int) 4<=3:=by decide
theorem Hn {a b:Int} (a0:0<=a) (a1:a < 3) (b0:0<=b) (b1:b < 5):∃v:Nat,a+1 - Int.fdiv b 4=(v:Int)/\v<=3:=by
 obtain ⟨x,rfl⟩:=Int.eq_ofNat_of_zero_le a0
 obtain ⟨y,rfl⟩:=Int.eq_ofNat_of_zero_le b0
 have h:=wY x (Int.ofNat_lt.1 a1) y (Int.ofNat_lt.1 b1)
 exact ⟨_,(Int.toNat_of_nonneg h.1).symm,Int.toNat_le.2 h.2⟩
theorem r9 {n k:Nat} {ρ:Loc} (W:TW t c sd K es D off size high h) (hk:k<=2) (hK:K < 900) (r115:ρ.lookup 115=some (.ref t)) (r124:ρ.lookup 124=some (.int (k:Int))):
  ∃vs h',ev PT0 (a9 PT0 1000 (n+2)) Eg ρ h=.ok (.ref h'.length) (h'++[.list (ivs vs)])/\vs.length=k/\(∀v∈vs,v<=3)/\TW t c sd (K+4) es D off size high h'/\Tp t c h h':=by
 have hr:av 0 (k:Int)=(List.range k).map fun (i:Nat)=>V.int (0+(i:Int)):=by unfold av;rw [show ((k:Int) - 0).toNat=k by omega]
 let J:Nat->List V->H->Prop:=fun i acc h'=>∃vs:List Nat,acc=ivs vs/\vs.length=i/\(∀v∈vs,v<=3)/\TW t c sd (K+2*i) es D off size high h'/\Tp t c h h'
 obtain ⟨acc,h',e,vs,rfl,hl,hv,W',G⟩:=qi (J:=J) (nx:=b5 (isL (.rng 0 (k:Int)) h) (.rng 0 (k:Int)) (av 0 (k:Int))) (el:=fx PT0 (a9 PT0 1000 (n+2)) (.bin .Sub (.bin .Add (.call (.stat (.fn 793)) [.loc 115,.int (3)]) (.int (1))) (.bin .FloorDiv (.call (.stat (.fn 793)) [.loc 115,.int (5)]) (.int (4)))) 118 (.bool true) ρ) (f:=fun (i:Nat)=>V.int (0+(i:Int))) (xs:=List.range k) (fun i acc h' Z=>by rw [hr];rfl) (by
  rintro i x acc h' hx ⟨vs,rfl,hl,hv,W',G⟩
  have hi:=(List.getElem?_eq_some_iff.1 hx).1
  rw [List.length_range] at hi
  obtain ⟨a,h1,e1,a0,a1,W1,G1⟩:=i7 (n:=n+1) (l:=3) W' (by decide) (by omega)
  obtain ⟨b,h2,e2,b0,b1,W2,G2⟩:=i7 (n:=n+1) (l:=5) W1 (by decide) (by omega)
  obtain ⟨v,hv1,hv2⟩:∃v:Nat,a+1 - Int.fdiv b 4=(v:Int)/\v<=3:=Hn a0 a1 b0 b1
  have d4:(4:Int)≠0/\(4:Int).natAbs < 1000000000:=by decide
  refine ⟨.int (a+1 - Int.fdiv b 4),h2,?_,vs++[v],?_,by simp [hl],?_,?_,(G.trans G1).trans G2⟩
  ·exact HZ
  ·rw [hv1];simp [ivs]
  ·intro u hu
   rcases List.mem_append.1 hu with hu|hu
   ·exact hv u hu
   ·rw [List.mem_singleton.1 hu];exact hv2
  ·exact W2.up (by omega) (by omega)) 99999 0 [] h (by simp;omega) (Nat.zero_le _) ⟨[],rfl,rfl,by simp,by simpa using W,Tp.refl⟩
 rw [List.length_range] at hl W'
 have ib:items (.rng 0 (k:Int)) h=some (av 0 (k:Int)):=sR (by omega)
 refine ⟨vs,h',?_,hl,hv,W'.up (by omega) (by omega),G⟩
 delta Eg
 have hi:ev PT0 (a9 PT0 1000 (n+2)) (.call (.stat (.bt .range)) [.loc 124]) ρ h=.ok (.rng 0 (k:Int)) h:=by exact HZ
 refine jQ hi ib (eZ e) (mY ?_)
 rw [on];omega
theorem uU {l:List (Nat×Nat)}:bX (l.map fun a=>V.str (spT a.1 a.2))=some (l.map fun a=>spT a.1 a.2):=by
 induction l with
 |nil=>rfl
 |cons a l ih=>rw [List.map_cons,bX,ih];rfl
theorem o5 {n L:Nat} {vs:List Nat} {ρ:Loc} (W:TW t c sd K es D off size high h) (hv:∀v∈vs,v<=9) (hl:vs.length<=3) (hK:K < 900) (gL:h[L]?=some (.list (ivs vs))) (hLt:L≠t/\L≠c) (r115:ρ.lookup 115=some (.ref t)) (r98:ρ.lookup 98=some (.ref L)):
  ∃(l:List (Nat×Nat)) (h':H),ev PT0 (a9 PT0 1000 (n+2)) Ee ρ h=.ok (.ref h'.length) (h'++[.list (l.map fun a=>V.str (spT a.1 a.2))])/\l.map (·.2)=vs/\TW t c sd (K+3) es D off size high h'/\Tp t c h h':=by
 let J:Nat->List V->H->Prop:=fun i acc h'=>∃l:List (Nat×Nat),acc=l.map (fun a=>V.str (spT a.1 a.2))/\l.map (·.2)=vs.take i/\i<=vs.length/\TW t c sd (K+i) es D off size high h'/\Tp t c h h'
 obtain ⟨acc,h',e,l,rfl,hl2,-,W',G⟩:=qi (J:=J) (nx:=b5 (isL (.ref L) h) (.ref L) (ivs vs)) (el:=fx PT0 (a9 PT0 1000 (n+2)) (.call (.stat (.fn 840)) [.loc 115,.loc 94]) 94 (.bool true) ρ) (f:=fun (v:Nat)=>V.int (v:Int)) (xs:=vs) (fun i acc h' ⟨_,_,_,_,_,G⟩=>yl gL (G _ _ hLt.1 hLt.2 gL) rfl) (by
  rintro i v acc h' hx ⟨l,rfl,hl2,hi,W',G⟩
  have hi:=(List.getElem?_eq_some_iff.1 hx).1
  obtain ⟨w,h1,e1,W1,G1⟩:=gX (n:=n) W' (hv v (we hx)) (by omega)
  refine ⟨.str (spT w v),h1,?_,l++[(w,v)],by rw [List.map_append];rfl,?_,by omega,W1.up (by omega) (by omega),G.trans G1⟩
  ·exact HZ
  ·rw [List.map_append,hl2,List.take_add_one,hx];rfl) 99999 0 [] h (by omega) (Nat.zero_le _) ⟨[],rfl,rfl,Nat.zero_le _,by simpa using W,Tp.refl⟩
 rw [List.take_length] at hl2
 refine ⟨l,h',?_,hl2,W'.up (by omega) (by omega),G⟩
 delta Ee
 have hi:ev PT0 (a9 PT0 1000 (n+2)) (.loc 98) ρ h=.ok (.ref L) h:=by exact HZ
 refine jQ hi (ug gL) (eZ e) (mY ?_)
 have:=congrArg List.length hl2
 rw [on] at this ⊢;omega
end
end
section
noncomputable def tn1:PS:=.asgT [84,121,124] (.sub (.stat (.tup [.tup [.str [65,32,79,70,32,84],.str [65],.int (1)],.tup [.str [65,32,73,78,32,71],.str [65],.int (1)],.tup [.str [65,32,79,70,32,72],.str [72,65],.int (0)],.tup [.str [66],.str [66],.int (2)],.tup [.str [98,32,111,102,32,85,32,105,110,32,84,32,111,102,32,71],.str [66],.int (2)],.tup [.str [85],.str [85],.int (2)],.tup [.str [84,32,73,78,32,71],.str [84],.int (1)],.tup [.str [71],.str [71],.int (0)],.tup [.str [65,32,73,78,32,70],.str [72,65],.int (0)],.tup [.str [72,32,79,70,32,70],.str [72],.int (0)],.tup [.str [65],.str [],.int (0)],.tup [.str [66,32,79,70,32,72],.str [],.int (2)],.tup [.str [65,32,79,70,32,71,32,79,70,32,84],.str [],.int (1)],.tup [.str [85,45,49],.str [],.int (0)]])) (.call (.stat (.fn 793)) [.loc 115,.int (14)]))
noncomputable def tn2:PS:=.asg 98 (.comp (.bin .Sub (.bin .Add (.call (.stat (.fn 793)) [.loc 115,.int (3)]) (.int (1))) (.bin .FloorDiv (.call (.stat (.fn 793)) [.loc 115,.int (5)]) (.int (4)))) 118 (.call (.stat (.bt .range)) [.loc 124]) (.bool true))
noncomputable def tn3:PS:=.asg 134 (.call (.stat (.fn 793)) [.loc 115,.int (7)])
noncomputable def tn4:PS:=.asg 98 (.ite (.cmp (.loc 134) .Eq (.int (5))) (.bin .Add (.loc 98) (.list [.int (1)])) (.ite (.cmp (.loc 134) .Eq (.int (6))) (.slice (.loc 98) (.int (1)) (.none)) (.loc 98)))
noncomputable def tn5:PS:=.ite (.cmp (.loc 98) .NotEq (.list [])) [.asg 84 (.bin .Add (.bin .Add (.bin .Add (.loc 84) (.str [32,40])) (.meth (.str [32]) 5 [.comp (.call (.stat (.fn 840)) [.loc 115,.loc 94]) 94 (.loc 98) (.bool true)])) (.str [41]))] []
noncomputable def tn6:PS:=.asg 135 (.ite (.cmp (.loc 121) .Eq (.str [])) (.str [99,104,101,99,107]) (.meth (.loc 85) 3 [.bin .Add (.tup [.loc 121]) (.call (.stat (.bt .tuple)) [.loc 98]),.str [114,117,110]]))
noncomputable def tn7:PS:=.asg 131 (.call (.stat (.fn 793)) [.loc 115,.int (3)])
noncomputable def tn8:PS:=.asgD [65,66] [.call (.stat (.fn 793)) [.loc 115,.int (5)],.call (.stat (.fn 793)) [.loc 115,.int (5)]]
noncomputable def tn9:PS:=.ite (.cmp (.loc 131) .Gt (.int (0))) [.asg 84 (.bin .Add (.bin .Add (.bin .Add (.bin .Add (.bin .Add (.loc 84) (.str [32,40])) (.call (.stat (.fn 840)) [.loc 115,.loc 65])) (.str [32,58])) (.ite (.cmp (.loc 131) .Eq (.int (2))) (.bin .Add (.str [32]) (.call (.stat (.fn 840)) [.loc 115,.loc 66])) (.str []))) (.str [41]))] []
noncomputable def lG:PS:=.ite (.and (.cmp (.loc 131) .Gt (.int (0))) (.call (.stat (.bf .isinst)) [.loc 135,.stat (.bt .tuple)])) [.asg 136 (.slice (.call (.stat (.bt .list)) [.call (.stat (.bt .range)) [.sub (.loc 135) (.int (0)),.bin .Add (.sub (.loc 135) (.int (0))) (.sub (.loc 135) (.int (1)))]]) (.call (.stat (.bf .max)) [.bin .Sub (.loc 65) (.int (1)),.int (0)]) (.none)),.asg 35 (.ite (.cmp (.loc 131) .Eq (.int (2))) (.loc 66) (.call (.stat (.bf .len)) [.loc 136])),.asg 135 (.ite (.and (.cmp (.loc 65) .Gt (.int (0))) (.chain (.int (0)) .Lt (.loc 35) .LtE (.call (.stat (.bf .len)) [.loc 136]))) (.tup [.sub (.loc 136) (.int (0)),.loc 35]) (.str [114,117,110]))] []
noncomputable def rW:PS:=.ite (.cmp (.call (.stat (.fn 833)) [.loc 49,.loc 84]) .NotEq (.loc 135)) [.ret (.bool false)] []
noncomputable def vT:PS:=.ite (.and (.cmp (.sub (.loc 84) (.neg (.int (1)))) .Eq (.str [41])) (.cmp (.call (.stat (.fn 833)) [.loc 49,.slice (.loc 84) (.none) (.neg (.int (1)))]) .NotEq (.str [103,114,97,109,109,97,114]))) [.ret (.bool false)] []
theorem B4:gS=[tn1,tn2,tn3,tn4,tn5,tn6,tn7,tn8,tn9,lG,rW,vT]:=rfl
noncomputable def hdV (H:Hd):V:=.tup [.str H.txt,.str H.who,.int (H.many:Int)]
theorem AN {α:Type} {l:List α} (hl:l.length<=100000):fU l (.int 1) .none=some (l.drop 1):=by
 refine (oY (a:=bo l.length 1) (b:=l.length) rfl rfl hl).trans ?_
 rw [List.take_length,show bo l.length 1=min 1 l.length from jd (i:=1)]
 rcases l with _|⟨a,r⟩
 ·rfl
 ·rw [Nat.min_eq_left (by simp)]
section
variable {D:DAd} {off size high:It->Int} {t c sd:Nat} {K:Int} {es:List (Key×V)} {h h':H}
theorem Fi {n:Nat} {ρ:Loc} (W:TW t c sd K es D off size high h) (hK:K < 800) (r115:ρ.lookup 115=some (.ref t)) (r49:ρ.lookup 49=some (.ref D.d)) (r85:ρ.lookup 85=some (.ref sd)):
  ∃(X:Hd) (ns:List Nat) (L:Nat) (h':H) (ρ':Loc),X∈HL/\ns.length<=3/\(∀v∈ns,v<=3)/\(∀r,exs PT0 (a9 PT0 1000 (n+2)) 1000 [tn5,tn6,tn7,tn8,tn9,lG,rW,vT] ρ' h'=r->exs PT0 (a9 PT0 1000 (n+2)) 1000 gS ρ h=r)/\
   ρ'.lookup 115=some (.ref t)/\ρ'.lookup 49=some (.ref D.d)/\ρ'.lookup 85=some (.ref sd)/\ρ'.lookup 84=some (.str X.txt)/\ρ'.lookup 121=some (.str X.who)/\ρ'.lookup 98=some (.ref L)/\
   h'[L]?=some (.list (ivs ns))/\L≠t/\L≠c/\TW t c sd (K+6) es D off size high h':=by
 obtain ⟨a,h1,e1,a0,a1,W1,G1⟩:=i7 (n:=n+1) (l:=14) W (by decide) (by omega)
 obtain ⟨i,hi⟩:∃i:Nat,a=(i:Int):=⟨a.toNat,by omega⟩
 subst hi
 have hlen:HL.length=14:=rfl
 have hx:HL[i]?=some HL[i]:=HJ (by omega)
 have hm:HL[i]∈HL:=List.getElem_mem (by omega)
 generalize HL[i]=X at hx hm
 have ok:=yX hm
 have i1:aC (HL.map hdV) (i:Int)=some (.tup [.str X.txt,.str X.who,.int (X.many:Int)]):=cw (by omega) (by rw [List.getElem?_map,hx];rfl)
 have s1:ex PT0 (a9 PT0 1000 (n+2)) 1000 tn1 ρ h=.ok (.next,(124,.int (X.many:Int))::(121,.str X.who)::(84,.str X.txt)::ρ) h1:=by
  delta tn1
  refine xV (m:=.ok (.tup [.str X.txt,.str X.who,.int (X.many:Int)]) h1) ?_ rfl
  have d1:ev PT0 (a9 PT0 1000 (n+2)) (.call (.stat (.fn 793)) [.loc 115,.int 14]) ρ h=.ok (.int (i:Int)) h1:=by exact HZ
  have g1:getItem (.tup (HL.map hdV)) (.int (i:Int)) h1=.ok (.tup [.str X.txt,.str X.who,.int (X.many:Int)]) h1:=yA i1
  refine BZ (v:=.tup (HL.map hdV)) (h1:=h) ?_ d1 g1
  show R.ok _ h=_
  rfl
 let ρ1:Loc:=(124,.int (X.many:Int))::(121,.str X.who)::(84,.str X.txt)::ρ
 obtain ⟨vs,h2,e2,hl,hv,W2,G2⟩:=r9 (n:=n) (ρ:=ρ1) W1 ok.many (by omega) (by exact I0) bZ
 dsimp only [Eg] at e2
 have s2:ex PT0 (a9 PT0 1000 (n+2)) 1000 tn2 ρ1 h1=.ok (.next,(98,.ref h2.length)::ρ1) (h2++[.list (ivs vs)]):=w6 e2 rfl
 obtain ⟨b,h3,e3,b0,b1,W3,G3⟩:=i7 (n:=n+1) (l:=7) (W2.ex (Ex.app (g:=[.list (ivs vs)]))) (by decide) (by omega)
 let ρ3:Loc:=(134,.int b)::(98,.ref h2.length)::ρ1
 have s3:ex PT0 (a9 PT0 1000 (n+2)) 1000 tn3 ((98,.ref h2.length)::ρ1) (h2++[.list (ivs vs)])=.ok (.next,ρ3) h3:=by
  delta tn3
  exact HZ
 have lt2:=W2.tape.lt
 have lt3:=W3.tape.lt
 have g98:h3[h2.length]?=some (.list (ivs vs)):=G3 _ _ (by omega) (by omega) aN
 have g98':(h3++[O.list [.int 1]])[h2.length]?=some (.list (ivs vs)):=ax g98
 have gn:(h3++[O.list [.int 1]])[h3.length]?=some (.list [.int 1]):=aN
 have lL:(ivs vs).length<=100000:=by rw [on];have:=ok.many;omega
 have lL1:(ivs vs).length+[V.int 1].length<=100000:=by rw [on];have:=ok.many;simp;omega
 have hm2:=ok.many
 have fin:∀(ns:List Nat) (L:Nat) (h':H),ex PT0 (a9 PT0 1000 (n+2)) 1000 tn4 ρ3 h3=.ok (.next,(98,.ref L)::ρ3) h'->ns.length<=3->(∀v∈ns,v<=3)->h'[L]?=some (.list (ivs ns))->h2.length<=L->Ex h3 h'->
   ∃(X:Hd) (ns:List Nat) (L:Nat) (h':H) (ρ':Loc),X∈HL/\ns.length<=3/\(∀v∈ns,v<=3)/\(∀r,exs PT0 (a9 PT0 1000 (n+2)) 1000 [tn5,tn6,tn7,tn8,tn9,lG,rW,vT] ρ' h'=r->exs PT0 (a9 PT0 1000 (n+2)) 1000 gS ρ h=r)/\
   ρ'.lookup 115=some (.ref t)/\ρ'.lookup 49=some (.ref D.d)/\ρ'.lookup 85=some (.ref sd)/\ρ'.lookup 84=some (.str X.txt)/\ρ'.lookup 121=some (.str X.who)/\ρ'.lookup 98=some (.ref L)/\
   h'[L]?=some (.list (ivs ns))/\L≠t/\L≠c/\TW t c sd (K+6) es D off size high h':=by
  intro ns L h' s4 n1 n2 n3 n4 X4
  refine ⟨X,ns,L,h',(98,.ref L)::ρ3,hm,n1,n2,fun r hr=>?_,?_,?_,?_,?_,?_,bZ,n3,by omega,by omega,(W3.ex X4).up (by omega) (by omega)⟩
  ·rw [B4]
   exact aQ.trans (ck s1 (aS (aQ.trans (ck s2 (aS (aQ.trans (ck s3 (aS (aQ.trans (ck s4 (aS hr)))))))))))
  ·exact I0
  ·exact I0
  ·exact I0
  ·exact I0
  ·exact I0
 by_cases h5:b=5
 ·refine fin (vs++[1]) (h3++[O.list [.int 1]]).length (h3++[O.list [.int 1]]++[.list (ivs vs++[.int 1])]) ?_ (by simp;omega) (fun v hv'=>?_) ?_ (by simp;have:=bF g98;omega) (Ex.app.trans Ex.app)
  ·delta tn4
   exact HZ
  ·rcases List.mem_append.1 hv' with q|q
   ·exact hv v q
   ·rw [List.mem_singleton.1 q];omega
  ·refine aN.trans ?_
   simp [ivs]
 ·by_cases h6:b=6
  ·have cu:=AN (l:=ivs vs) (by rw [on];omega)
   refine fin (vs.drop 1) h3.length (h3++[.list ((ivs vs).drop 1)]) ?_ (by simp;omega) (fun v hv'=>hv v (List.mem_of_mem_drop hv')) ?_ (by have:=bF g98;omega) Ex.app
   ·delta tn4
    exact HZ
   ·refine aN.trans ?_
    rw [<-List.map_drop]
  ·refine fin vs h2.length h3 ?_ (by omega) hv g98 (HM _) Ex.refl
   delta tn4
   exact HZ
end
end
section
theorem gN (w v:Nat):(spT w v).length<=11:=by
 rcases tH w v with ⟨-,e⟩|⟨u,-,-,e⟩|⟨-,e⟩<;>rw [e]<;>simp
theorem lc:∀l:List (Nat×Nat),(cF [32] (l.map fun a=>spT a.1 a.2)).length<=12*l.length/\((l.map fun a=>spT a.1 a.2).map fun w=>w.length+([32]:List Nat).length).sum<=12*l.length
 |[]=>by simp [show cF [32] []=[] from rfl]
 |[a]=>by have:=gN a.1 a.2;simp [show ∀x,cF [32] [x]=x from fun x=>rfl];omega
 |a::b::l=>by
  have ih:=lc (b::l)
  have h1:=gN a.1 a.2
  have e1:(cF [32] ((a::b::l).map fun a=>spT a.1 a.2)).length=(spT a.1 a.2).length+1+(cF [32] ((b::l).map fun a=>spT a.1 a.2)).length:=by
   show ((spT a.1 a.2++[32])++_).length=_
   rw [List.length_append,List.length_append];rfl
  refine ⟨by rw [e1,List.length_cons];omega,?_⟩
  (rewrite +offsetCnstrs [List.map_cons,List.map_cons,List.sum_cons,List.length_cons (a:=a)];try with_reducible rfl)
  have:=ih.2
  simp only [List.length_cons,List.length_nil] at this⊢
  omega
theorem pF (l:List (Nat×Nat)):(lB l []).length<=3+12*l.length:=by
 rcases l with _|⟨a,r⟩
 ·simp [lB]
 ·have:=(lc (a::r)).1;simp [lB] at this ⊢;omega
section
variable {D:DAd} {off size high:It->Int} {t c sd:Nat} {K:Int} {es:List (Key×V)} {h h':H}
theorem Fh {n L:Nat} {ns:List Nat} {ρ:Loc} {tx wh:List Nat} {rest:List PS} (W:TW t c sd K es D off size high h) (hK:K < 800) (hl:ns.length<=3) (hv:∀v∈ns,v<=3) (htx:tx.length<=30)
  (r115:ρ.lookup 115=some (.ref t)) (r49:ρ.lookup 49=some (.ref D.d)) (r85:ρ.lookup 85=some (.ref sd)) (r84:ρ.lookup 84=some (.str tx)) (r121:ρ.lookup 121=some (.str wh)) (r98:ρ.lookup 98=some (.ref L)) (gL:h[L]?=some (.list (ivs ns))) (n1:L≠t) (n2:L≠c):
  ∃(l:List (Nat×Nat)) (h':H) (ρ':Loc),l.map (·.2)=ns/\(∀r,exs PT0 (a9 PT0 1000 (n+2)) 1000 rest ρ' h'=r->exs PT0 (a9 PT0 1000 (n+2)) 1000 (tn5::rest) ρ h=r)/\
   ρ'.lookup 115=some (.ref t)/\ρ'.lookup 49=some (.ref D.d)/\ρ'.lookup 85=some (.ref sd)/\ρ'.lookup 84=some (.str (tx++lB l []))/\ρ'.lookup 121=some (.str wh)/\ρ'.lookup 98=some (.ref L)/\
   h'[L]?=some (.list (ivs ns))/\TW t c sd (K+3) es D off size high h':=by
 have cn:=C2 (ax (g:=[O.list []]) gL) (aN (h:=h) (o:=.list []))
 by_cases hn:ns=[]
 ·subst hn
  have cn:aH .NotEq (.ref L) (.ref h.length) (h++[O.list []])=some false:=cn
  refine ⟨[],h++[.list []],ρ,rfl,fun r hr=>aQ.trans (ck (q:=.ok (.next,ρ) (h++[.list []])) ?_ (aS hr)),r115,r49,r85,by rw [show tx++lB [] []=tx from th _];exact r84,r121,r98,ax gL,(W.ex Ex.app).up (by omega) (by omega)⟩
  delta tn5
  exact HZ
 ·have cn:aH .NotEq (.ref L) (.ref h.length) (h++[O.list []])=some true:=by
   rw [cn];rcases ns with _|⟨a,r⟩
   ·exact absurd rfl hn
   ·rfl
  obtain ⟨l,h2,e2,hls,W2,G2⟩:=o5 (n:=n) (L:=L) (vs:=ns) (W.ex (Ex.app (g:=[.list []]))) (fun v q=>by have:=hv v q;omega) hl (by omega) (ax gL) ⟨n1,n2⟩ r115 r98
  dsimp only [Ee] at e2
  have ll:l.length<=3:=by have:=congrArg List.length hls;rw [on] at this;omega
  have jl:=lc l
  have st:=uU (l:=l)
  have gj:(h2++[O.list (l.map fun a=>V.str (spT a.1 a.2))])[h2.length]?=some (.list (l.map fun a=>V.str (spT a.1 a.2))):=aN
  have mj:=sK gj st (s:=[32]) (by omega)
  obtain ⟨a,r,rfl⟩:∃a r,l=a::r:=by
   rcases l with _|⟨a,r⟩
   ·exact absurd hls.symm hn
   ·exact ⟨a,r,rfl⟩
  generalize hJ:cF [32] ((a::r).map fun a=>spT a.1 a.2)=J at mj jl
  have l1:tx.length+([32,40]:List Nat).length<=100000:=by simp;omega
  have l2:(tx++[32,40]).length+J.length<=100000:=by simp;omega
  have l3:((tx++[32,40])++J).length+([41]:List Nat).length<=100000:=by simp;omega
  have htxt:tx++lB (a::r) []=((tx++[32,40])++J)++[41]:=by rw [<-hJ];simp [lB]
  refine ⟨a::r,h2++[.list ((a::r).map fun a=>.str (spT a.1 a.2))],(84,.str (((tx++[32,40])++J)++[41]))::ρ,hls,fun q hr=>aQ.trans (ck (q:=.ok (.next,(84,.str (((tx++[32,40])++J)++[41]))::ρ) (h2++[.list ((a::r).map fun a=>.str (spT a.1 a.2))])) ?_ (aS hr)),by exact I0,by exact I0,by exact I0,by rw [htxt];exact bZ,by exact I0,by exact I0,ax (G2 _ _ n1 n2 (ax gL)),W2.ex Ex.app⟩
  delta tn5
  exact HZ
end
end
section
noncomputable abbrev ins (ns:List Nat):List Int:=ns.map fun (v:Nat)=>(v:Int)
noncomputable def rU (es:List (Key×V)) (wh:List Nat) (ns:List Nat):V:=if wh=[] then .str [99,104,101,99,107] else (es.lookup (kL wh (ins ns))).getD (.str [114,117,110])
theorem zN:∀ns:List Nat,okT (ivs ns)=true
 |[]=>rfl
 |[_]=>rfl
 |[_,_]=>rfl
 |_::_::_::_=>rfl
theorem zM {wh:List Nat}:∀ns:List Nat,okT ([.str wh]++ivs ns)=true
 |[]=>rfl
 |[_]=>rfl
 |_::_::_=>rfl
theorem qa:∀ns:List Nat,(ivs ns).mapM cK=some ((ins ns).map FK.i)
 |[]=>rfl
 |a::r=>by
  rw [show ivs (a::r)=V.int (a:Int)::ivs r from rfl,List.mapM_cons,qa r];rfl
section
variable {D:DAd} {off size high:It->Int} {t c sd:Nat} {K:Int} {es:List (Key×V)} {h h':H}
theorem Fg {n L:Nat} {ns:List Nat} {ρ:Loc} {wh:List Nat} {rest:List PS} (W:TW t c sd K es D off size high h) (ha:oM es=true) (hl:ns.length<=3)
  (r85:ρ.lookup 85=some (.ref sd)) (r121:ρ.lookup 121=some (.str wh)) (r98:ρ.lookup 98=some (.ref L)) (gL:h[L]?=some (.list (ivs ns))):
  ∀r,exs PT0 (a9 PT0 1000 (n+2)) 1000 rest ((135,rU es wh ns)::ρ) h=r->exs PT0 (a9 PT0 1000 (n+2)) 1000 (tn6::rest) ρ h=r:=by
 intro r hr
 refine aQ.trans (ck (q:=.ok (.next,(135,rU es wh ns)::ρ) h) ?_ (aS hr))
 unfold rU
 delta tn6
 by_cases hw:wh=[]
 ·subst hw
  rw [if_pos rfl]
  exact HZ
 ·have c1:az wh []=false:=decide_eq_false hw
  have q1:(ivs ns).length<=100000/\okT (ivs ns)=true:=⟨by rw [on];omega,zN ns⟩
  have l1:[V.str wh].length+(ivs ns).length<=100000/\okT ([V.str wh]++ivs ns)=true:=⟨by rw [on];simp;omega,zM ns⟩
  have fl:([V.str wh]++ivs ns).mapM cK=some (.s wh::(ins ns).map FK.i):=by
   rw [List.singleton_append,List.mapM_cons,qa];rfl
  have g1:=DC (cf:=a9 PT0 1000 (n+2)) (d:=.str [114,117,110]) W.spots (A2 fl ha)
  have gsp:=W.spots
  rw [if_neg hw]
  exact HZ
  rfl
noncomputable def mX (w:Nat) (b l:Nat×Nat):Option ((Nat×Nat)×Option (Nat×Nat)):=match w with
 |0=>none
 |1=>some (b,none)
 |_=>some (b,some l)
noncomputable def rY:Option ((Nat×Nat)×Option (Nat×Nat))->List Nat
 |none=>[]
 |some (b,l)=>i6 b l++[41]
theorem Ff {n:Nat} {ρ:Loc} {tx:List Nat} {du:V} {rest:List PS} (W:TW t c sd K es D off size high h) (hK:K < 800) (htx:tx.length<=80)
  (r115:ρ.lookup 115=some (.ref t)) (r49:ρ.lookup 49=some (.ref D.d)) (r85:ρ.lookup 85=some (.ref sd)) (r84:ρ.lookup 84=some (.str tx)) (r135:ρ.lookup 135=some du):
  ∃(w:Nat) (b l:Nat×Nat) (h':H) (ρ':Loc),w<=2/\b.2<=4/\l.2<=4/\(∀r,exs PT0 (a9 PT0 1000 (n+2)) 1000 rest ρ' h'=r->exs PT0 (a9 PT0 1000 (n+2)) 1000 (tn7::tn8::tn9::rest) ρ h=r)/\
   ρ'.lookup 115=some (.ref t)/\ρ'.lookup 49=some (.ref D.d)/\ρ'.lookup 85=some (.ref sd)/\ρ'.lookup 84=some (.str (tx++rY (mX w b l)))/\ρ'.lookup 135=some du/\ρ'.lookup 131=some (.int (w:Int))/\ρ'.lookup 65=some (.int (b.2:Int))/\ρ'.lookup 66=some (.int (l.2:Int))/\
   TW t c sd (K+5) es D off size high h':=by
 obtain ⟨w,h1,e1,w0,w1,W1,-⟩:=i7 (n:=n+1) (l:=3) W (by decide) (by omega)
 obtain ⟨b,h2,e2,b0,b1,W2,-⟩:=i7 (n:=n+1) (l:=5) W1 (by decide) (by omega)
 obtain ⟨l,h3,e3,l0,l1,W3,-⟩:=i7 (n:=n+1) (l:=5) W2 (by decide) (by omega)
 obtain ⟨w,rfl⟩:∃i:Nat,w=(i:Int):=⟨w.toNat,by omega⟩
 obtain ⟨b,rfl⟩:∃i:Nat,b=(i:Int):=⟨b.toNat,by omega⟩
 obtain ⟨l,rfl⟩:∃i:Nat,l=(i:Int):=⟨l.toNat,by omega⟩
 let ρ3:Loc:=(66,.int (l:Int))::(65,.int (b:Int))::(131,.int (w:Int))::ρ
 have s1:ex PT0 (a9 PT0 1000 (n+2)) 1000 tn7 ρ h=.ok (.next,(131,.int (w:Int))::ρ) h1:=by delta tn7;exact HZ
 have s2:ex PT0 (a9 PT0 1000 (n+2)) 1000 tn8 ((131,.int (w:Int))::ρ) h1=.ok (.next,ρ3) h3:=by delta tn8;exact HZ
 have fin:∀(x y:Nat×Nat) (h':H) (ρ':Loc),x.2=b->y.2=l->ex PT0 (a9 PT0 1000 (n+2)) 1000 tn9 ρ3 h3=.ok (.next,ρ') h'->(∀k,k≠84->ρ'.lookup k=ρ3.lookup k)->ρ'.lookup 84=some (.str (tx++rY (mX w x y)))->TW t c sd (K+5) es D off size high h'->
   ∃(w:Nat) (b l:Nat×Nat) (h':H) (ρ':Loc),w<=2/\b.2<=4/\l.2<=4/\(∀r,exs PT0 (a9 PT0 1000 (n+2)) 1000 rest ρ' h'=r->exs PT0 (a9 PT0 1000 (n+2)) 1000 (tn7::tn8::tn9::rest) ρ h=r)/\
   ρ'.lookup 115=some (.ref t)/\ρ'.lookup 49=some (.ref D.d)/\ρ'.lookup 85=some (.ref sd)/\ρ'.lookup 84=some (.str (tx++rY (mX w b l)))/\ρ'.lookup 135=some du/\ρ'.lookup 131=some (.int (w:Int))/\ρ'.lookup 65=some (.int (b.2:Int))/\ρ'.lookup 66=some (.int (l.2:Int))/\
   TW t c sd (K+5) es D off size high h':=by
  rintro x y h' ρ' rfl rfl s3 hk h84 W'
  refine ⟨w,x,y,h',ρ',by omega,by omega,by omega,fun r hr=>aQ.trans (ck s1 (aS (aQ.trans (ck s2 (aS (aQ.trans (ck s3 (aS hr)))))))),(hk 115 (by decide)).trans (by exact I0),(hk 49 (by decide)).trans (by exact I0),(hk 85 (by decide)).trans (by exact I0),h84,(hk 135 (by decide)).trans (by exact I0),(hk 131 (by decide)).trans (by exact I0),(hk 65 (by decide)).trans (by exact I0),(hk 66 (by decide)).trans (by exact I0),W'⟩
 have keep:∀(v:V) k,k≠84->List.lookup k ((84,v)::ρ3)=ρ3.lookup k:=fun v k hk=>by rw [so,show (k==84)=false by simpa using hk]
 by_cases hw0:w=0
 ·subst hw0
  refine fin (0,b) (0,l) h3 ρ3 rfl rfl ?_ (fun Z Z=>rfl) (by rw [show tx++rY (mX 0 (0,b) (0,l))=tx from th _];exact I0) (W3.up (by omega) (by omega))
  have c0:¬((0:Nat):Int) > 0:=by decide
  delta tn9
  exact HZ
 ·have c0:(w:Int) > 0:=by omega
  obtain ⟨wb,h4,e4,W4,-⟩:=gX (n:=n) (v:=b) W3 (by omega) (by omega)
  have lb:=gN wb b
  have k1:tx.length+([32,40]:List Nat).length<=100000:=by simp;omega
  have k2:(tx++[32,40]).length+(spT wb b).length<=100000:=by simp;omega
  have k3:((tx++[32,40])++spT wb b).length+([32,58]:List Nat).length<=100000:=by simp;omega
  by_cases hw2:w=2
  ·subst hw2
   obtain ⟨wl,h5,e5,W5,-⟩:=gX (n:=n) (v:=l) W4 (by omega) (by omega)
   have ll:=gN wl l
   have k4:([32]:List Nat).length+(spT wl l).length<=100000:=by simp;omega
   have k5:(((tx++[32,40])++spT wb b)++[32,58]).length+([32]++spT wl l).length<=100000:=by simp;omega
   have k6:((((tx++[32,40])++spT wb b)++[32,58])++([32]++spT wl l)).length+([41]:List Nat).length<=100000:=by simp;omega
   refine fin (wb,b) (wl,l) h5 ((84,.str (((((tx++[32,40])++spT wb b)++[32,58])++([32]++spT wl l))++[41]))::ρ3) rfl rfl ?_ (keep _) (by rw [bZ];simp [rY,mX,i6,Ba]) (W5.up (by omega) (by omega))
   have c2:((2:Nat):Int)=2:=rfl
   delta tn9
   exact HZ
  ·obtain rfl:w=1:=by omega
   have k5:(((tx++[32,40])++spT wb b)++[32,58]).length+([]:List Nat).length<=100000:=by simp;omega
   have k6:((((tx++[32,40])++spT wb b)++[32,58])++[]).length+([41]:List Nat).length<=100000:=by simp;omega
   refine fin (wb,b) (0,l) h4 ((84,.str (((((tx++[32,40])++spT wb b)++[32,58])++[])++[41]))::ρ3) rfl rfl ?_ (keep _) (by rw [bZ];simp [rY,mX,i6,Ba]) (W4.up (by omega) (by omega))
   have c2:¬((1:Nat):Int)=2:=by decide
   delta tn9
   exact HZ
end
end
section
noncomputable def oK (du:V) (p:Option ((Nat×Nat)×Option (Nat×Nat))):V:=match du,p with
 |.tup [.int o,.int z],some (b,l)=>(match lC z o (some ((b.2:Int),l.map fun a=>(a.2:Int))) with|some oz=>ozV oz|none=>.str [114,117,110])
 |du,_=>du
theorem vF {α:Type} {l:List α} {i:Nat} (hl:l.length<=100000):fU l (.int (i:Int)) .none=some (l.drop i):=by
 refine (oY (a:=bo l.length i) (b:=l.length) rfl rfl hl).trans ?_
 rw [jd,List.take_length]
 by_cases h:i<=l.length
 ·rw [Nat.min_eq_left h]
 ·rw [Nat.min_eq_right (by omega),List.drop_length,HR (by omega)]
theorem pM {a b:Int} {j:Nat} (h:a+j < b) (hj:j<=1000):aC ((av a b).drop j) 0=some (.int (a+j)):=by
 have e:((av a b).drop j)[0]?=some (.int (a+j)):=by rw [List.getElem?_drop];exact tV (by omega)
 exact cw (i:=0) (by omega) e
theorem kD {a b:Int}:(av a b).length=(b - a).toNat:=by unfold av;simp
theorem azo {o z:Int}:o+z - o=z:=by rw [Int.add_comm,Int.add_sub_cancel]
theorem dz1 {o z:Int} {j n:Nat} (e:n=(o+z - o).toNat - j):(n:Int)=max (z - j) 0:=by
 rw [e,azo,<-Int.toNat_sub',Int.ofNat_toNat]
theorem mx1 {b:Nat}:max ((b:Int) - 1) 0=((b - 1:Nat):Int):=by
 rcases b with _|b
 ·rfl
 ·rw [show ((b+1:Nat):Int) - 1=(b:Int) from Int.add_sub_cancel (b:Int) 1];exact Int.max_eq_left (Int.natCast_nonneg b)
theorem mx2 {z:Int} {j:Nat} (h:0 < max (z - j) 0):(j:Int) < z:=
 Int.not_le.1 fun g=>absurd h (by rw [Int.max_eq_right (Int.sub_nonpos_of_le g)];exact Int.lt_irrefl 0)
theorem mx3 {z:Int} {j:Nat} (h:(j:Int) < z):0 < max (z - j) 0:=Int.lt_of_lt_of_le (Int.sub_pos_of_lt h) (Int.le_max_left ..)
theorem Ha {b l j:Nat} {z o:Int} (hj:b - 1=j):lC z o (some ((b:Int),some (l:Int)))=if 1<=b/\1<=l/\(l:Int)<=max (z - j) 0 then some (o+j,(l:Int)) else none:=by
 subst hj
 unfold lC
 dsimp only [Option.getD_some]
 rcases b with _|b
 ·rw [if_pos (.inl (by decide)),if_neg (fun h=>absurd h.1 (by decide))]
 rcases l with _|l
 ·rw [if_pos (.inr (.inl (by decide))),if_neg (fun h=>absurd h.2.1 (by decide))]
 rw [Nat.add_sub_cancel]
 by_cases h:z < ((b+1:Nat):Int)+((l+1:Nat):Int) - 1
 ·refine (if_pos (.inr (.inr h))).trans (if_neg fun q=>?_).symm
  have g:=mx2 (Int.lt_of_lt_of_le (Int.natCast_pos.2 q.2.1) q.2.2)
  have q:=q.2.2
  rw [Int.max_eq_left (Int.le_of_lt (Int.sub_pos_of_lt g))] at q
  omega
 ·rw [if_neg (by omega),if_pos ⟨Nat.succ_pos _,Nat.succ_pos _,HP (by omega) (Int.le_max_left ..)⟩,show o+((b+1:Nat):Int) - 1=o+b by omega]
theorem Hb {b j:Nat} {z o:Int} (hj:b - 1=j):lC z o (some ((b:Int),none))=if 1<=b/\(j:Int) < z then some (o+j,max (z - j) 0) else none:=by
 subst hj
 unfold lC
 dsimp only [Option.getD_none]
 rcases b with _|b
 ·rw [if_pos (.inl (by decide)),if_neg (fun h=>absurd h.1 (by decide))]
 rw [Nat.add_sub_cancel]
 by_cases h:(b:Int) < z
 ·rw [if_neg (by omega),if_pos ⟨Nat.succ_pos _,h⟩,Int.max_eq_left (Int.le_of_lt (Int.sub_pos_of_lt h)),show o+((b+1:Nat):Int) - 1=o+b by omega,show z - ((b+1:Nat):Int)+1=z - b by omega]
 ·rw [if_pos (.inr (.inl (by omega))),if_neg fun q=>h q.2]
theorem Fu {o z:Int} (o0:0<=o) (o1:o<=1000) (z0:0<=z) (z1:z<=1000):(small o&&small (o+z)&&decide (o+z - o<=100000))=true:=by
 rw [azo,bU ⟨HP (by decide) o0,HP o1 (by decide)⟩,bU ⟨HP (by decide) (Int.add_nonneg o0 z0),HP (Int.add_le_add o1 z1) (by decide)⟩,decide_eq_true (HP z1 (by decide))];rfl
theorem dz3 {o z:Int} (z1:z<=1000):(o+z - o).toNat<=100000:=by
 rw [azo];exact Int.toNat_le.2 (HP z1 (by decide))
section
variable {D:DAd} {off size high:It->Int} {t c sd:Nat} {K:Int} {es:List (Key×V)} {h h':H}
theorem Fe {n w:Nat} {b l:Nat×Nat} {ρ:Loc} {tx:List Nat} {du:V} {rest:List PS} (W:TW t c sd K es D off size high h) (hw:w<=2) (hb:b.2<=4) (hl:l.2<=4) (hdu:(∃o z,du=.tup [.int o,.int z]/\0<=o/\o<=1000/\0<=z/\z<=1000)\/∃s,du=.str s)
  (r115:ρ.lookup 115=some (.ref t)) (r49:ρ.lookup 49=some (.ref D.d)) (r85:ρ.lookup 85=some (.ref sd)) (r84:ρ.lookup 84=some (.str tx)) (r135:ρ.lookup 135=some du) (r131:ρ.lookup 131=some (.int (w:Int))) (r65:ρ.lookup 65=some (.int (b.2:Int))) (r66:ρ.lookup 66=some (.int (l.2:Int))):
  ∃(h':H) (ρ':Loc),(∀r,exs PT0 (a9 PT0 1000 (n+2)) 1000 rest ρ' h'=r->exs PT0 (a9 PT0 1000 (n+2)) 1000 (lG::rest) ρ h=r)/\
   ρ'.lookup 115=some (.ref t)/\ρ'.lookup 49=some (.ref D.d)/\ρ'.lookup 85=some (.ref sd)/\ρ'.lookup 84=some (.str tx)/\ρ'.lookup 135=some (oK du (mX w b l))/\Ex h h':=by
 have skip:ex PT0 (a9 PT0 1000 (n+2)) 1000 lG ρ h=.ok (.next,ρ) h->oK du (mX w b l)=du->∃(h':H) (ρ':Loc),(∀r,exs PT0 (a9 PT0 1000 (n+2)) 1000 rest ρ' h'=r->exs PT0 (a9 PT0 1000 (n+2)) 1000 (lG::rest) ρ h=r)/\
   ρ'.lookup 115=some (.ref t)/\ρ'.lookup 49=some (.ref D.d)/\ρ'.lookup 85=some (.ref sd)/\ρ'.lookup 84=some (.str tx)/\ρ'.lookup 135=some (oK du (mX w b l))/\Ex h h':=fun e e2=>
  ⟨h,ρ,fun r hr=>aQ.trans (ck e (aS hr)),r115,r49,r85,r84,by rw [e2];exact r135,Ex.refl⟩
 by_cases hw0:w=0
 ·subst hw0
  have c0:¬((0:Nat):Int) > 0:=by decide
  refine skip (by delta lG;exact HZ) ?_
  show oK du none=du
  rcases hdu with ⟨o,z,rfl,-⟩|⟨s,rfl⟩<;>rfl
 have c0:(w:Int) > 0:=Int.natCast_pos.2 (Nat.pos_of_ne_zero hw0)
 rcases hdu with ⟨o,z,rfl,o0,o1,z0,z1⟩|⟨s,rfl⟩
 ·have i0:aC [V.int o,V.int z] 0=some (.int o):=rfl
  have i1:aC [V.int o,V.int z] 1=some (.int z):=rfl
  have qR:(small o&&small (o+z)&&decide (o+z - o<=100000))=true:=Fu o0 o1 z0 z1
  obtain ⟨j,hj,hjb⟩:∃j:Nat,max ((b.2:Int) - 1) 0=(j:Int)/\b.2 - 1=j:=⟨_,mx1,rfl⟩
  have hj9:j<=1000:=hjb▸HN (Nat.sub_le _ _) (HN hb (by decide))
  have cu:fU (av o (o+z)) (.int (max ((b.2:Int) - 1) 0)) .none=some ((av o (o+z)).drop j):=by rw [hj];exact vF (by rw [kD];exact dz3 z1)
  let h2:H:=h++[.list (av o (o+z))]++[.list ((av o (o+z)).drop j)]
  have gR:(h++[O.list (av o (o+z))])[h.length]?=some (.list (av o (o+z))):=aN
  have lR:(av o (o+z)).length<=100000:=by rw [kD];exact dz3 z1
  have lD:((av o (o+z)).drop j).length<=100000:=by rw [List.length_drop,kD];exact HN (Nat.sub_le _ _) (dz3 z1)
  have hD:(((av o (o+z)).drop j).length:Int)=max (z - j) 0:=dz1 (by rw [List.length_drop,kD])
  have gD:h2[(h++[O.list (av o (o+z))]).length]?=some (.list ((av o (o+z)).drop j)):=aN
  have X2:Ex h h2:=Ex.app.trans Ex.app
  have fin:∀(ρ':Loc) (q:V),ex PT0 (a9 PT0 1000 (n+2)) 1000 lG ρ h=.ok (.next,(135,q)::ρ') h2->oK (.tup [.int o,.int z]) (mX w b l)=q->(∀k,k≠35->k≠136->ρ'.lookup k=ρ.lookup k)->∃(h':H) (ρ':Loc),(∀r,exs PT0 (a9 PT0 1000 (n+2)) 1000 rest ρ' h'=r->exs PT0 (a9 PT0 1000 (n+2)) 1000 (lG::rest) ρ h=r)/\
   ρ'.lookup 115=some (.ref t)/\ρ'.lookup 49=some (.ref D.d)/\ρ'.lookup 85=some (.ref sd)/\ρ'.lookup 84=some (.str tx)/\ρ'.lookup 135=some (oK (.tup [.int o,.int z]) (mX w b l))/\Ex h h':=fun ρ' q e e2 hk=>
   ⟨h2,(135,q)::ρ',fun r hr=>aQ.trans (ck e (aS hr)),dC rfl ((hk 115 (by decide) (by decide)).trans r115),dC rfl ((hk 49 (by decide) (by decide)).trans r49),dC rfl ((hk 85 (by decide) (by decide)).trans r85),dC rfl ((hk 84 (by decide) (by decide)).trans r84),by rw [e2];exact bZ,X2⟩
  have keep:∀(u v:V) k,k≠35->k≠136->List.lookup k ((35,u)::(136,v)::ρ)=ρ.lookup k:=fun u v k h1 h2=>by
   rw [so,so,show (k==35)=false by simpa using h1,show (k==136)=false by simpa using h2]
  by_cases hw2:w=2
  ·subst hw2
   have c2:((2:Nat):Int)=2:=rfl
   by_cases hc:1<=b.2/\1<=l.2/\(l.2:Int)<=max (z - j) 0
   ·have a1:(b.2:Int) > 0:=Int.natCast_pos.2 hc.1
    have a2:(0:Int) < (l.2:Int):=Int.natCast_pos.2 hc.2.1
    have a3:(l.2:Int)<=(((av o (o+z)).drop j).length:Int):=hD▸hc.2.2
    have i3:aC ((av o (o+z)).drop j) 0=some (.int (o+j)):=pM (Int.add_lt_add_left (mx2 (Int.lt_of_lt_of_le a2 hc.2.2)) o) hj9
    refine fin ((35,.int (l.2:Int))::(136,.ref (h++[O.list (av o (o+z))]).length)::ρ) (.tup [.int (o+j),.int (l.2:Int)]) (by delta lG;exact HZ) ?_ (keep _ _)
    show (match lC z o (some ((b.2:Int),some (l.2:Int))) with|some oz=>ozV oz|none=>V.str [114,117,110])=_
    rw [Ha hjb,if_pos hc];rfl
   ·have hq:oK (.tup [.int o,.int z]) (mX 2 b l)=.str [114,117,110]:=by
     show (match lC z o (some ((b.2:Int),some (l.2:Int))) with|some oz=>ozV oz|none=>V.str [114,117,110])=_
     rw [Ha hjb,if_neg hc]
    refine fin ((35,.int (l.2:Int))::(136,.ref (h++[O.list (av o (o+z))]).length)::ρ) (.str [114,117,110]) ?_ hq (keep _ _)
    delta lG
    by_cases a1:(b.2:Int) > 0
    ·by_cases a2:(0:Int) < (l.2:Int)
     ·have a3:¬(l.2:Int)<=(((av o (o+z)).drop j).length:Int):=fun q=>hc ⟨Int.natCast_pos.1 a1,Int.natCast_pos.1 a2,hD▸q⟩
      exact HZ
     ·exact HZ
    ·exact HZ
  ·obtain rfl:w=1:=by clear hj hD hj9 hjb;omega
   have c2:¬((1:Nat):Int)=2:=by decide
   by_cases hc:1<=b.2/\(j:Int) < z
   ·have a1:(b.2:Int) > 0:=Int.natCast_pos.2 hc.1
    have a2:(0:Int) < (((av o (o+z)).drop j).length:Int):=hD▸mx3 hc.2
    have a3:(((av o (o+z)).drop j).length:Int)<=(((av o (o+z)).drop j).length:Int):=Int.le_refl _
    have i3:aC ((av o (o+z)).drop j) 0=some (.int (o+j)):=pM (Int.add_lt_add_left hc.2 o) hj9
    refine fin ((35,.int (((av o (o+z)).drop j).length:Int))::(136,.ref (h++[O.list (av o (o+z))]).length)::ρ) (.tup [.int (o+j),.int (((av o (o+z)).drop j).length:Int)]) (by delta lG;exact HZ) ?_ (keep _ _)
    show (match lC z o (some ((b.2:Int),none)) with|some oz=>ozV oz|none=>V.str [114,117,110])=_
    rw [Hb hjb,if_pos hc,<-hD];rfl
   ·have hq:oK (.tup [.int o,.int z]) (mX 1 b l)=.str [114,117,110]:=by
     show (match lC z o (some ((b.2:Int),none)) with|some oz=>ozV oz|none=>V.str [114,117,110])=_
     rw [Hb hjb,if_neg hc]
    refine fin ((35,.int (((av o (o+z)).drop j).length:Int))::(136,.ref (h++[O.list (av o (o+z))]).length)::ρ) (.str [114,117,110]) ?_ hq (keep _ _)
    delta lG
    by_cases a1:(b.2:Int) > 0
    ·have a2:¬(0:Int) < (((av o (o+z)).drop j).length:Int):=fun q=>hc ⟨Int.natCast_pos.1 a1,mx2 (hD▸q)⟩
     exact HZ
    ·exact HZ
 ·skip
  refine skip (by delta lG;exact HZ) ?_
  unfold oK
  rfl
end
end
section
theorem xF {v:V} {h:H} (e:(∃o z,v=.tup [.int o,.int z])\/∃s,v=.str s):aH .NotEq v v h=some false:=by
 rcases e with ⟨o,z,rfl⟩|⟨s,rfl⟩
 ·show some (!((o==o)&&((z==z)&&true)))=_
  simp
 ·show some (!(az s s))=_
  rw [show az s s=true from decide_eq_true rfl];rfl
theorem u6 {size high:It->Int} (hz:∀t,0<=size t/\size t<=100):∀(ts:List It) (ks:List Int) (o r:Int),(∀k∈ks,0<=k/\k<=3)->lH size high ts ks o=some r->o<=r/\r<=o+200*ts.length
 |[],ks,o,r,_,e=>by (injection e with e;subst e);simp
 |t::ts,[],o,r,_,e=>by (injection e with e;subst e);simp;omega
 |t::ts,k::ks,o,r,hk,e=>by
  replace e:(if 1<=k/\k<=high t then lH size high ts ks (o+(k - 1)*size t) else none)=some r:=e
  by_cases c:1<=k/\k<=high t
  ·rw [if_pos c] at e
   have ih:=u6 hz ts ks _ r (fun q hq=>hk q (by simp [hq])) e
   have h1:=hz t
   have h2:=hk k (by simp)
   have h3:0<=(k - 1)*size t/\(k - 1)*size t<=200:=by
    rcases (by omega:k=1\/k=2\/k=3) with rfl|rfl|rfl<;>omega
   rw [List.length_cons]
   omega
  ·rw [if_neg c] at e;injection e
theorem wD:((List.range 4).all fun m=>(List.range 4).all fun k=>(List.range 4).all fun f=>(List.range 4).all fun l=>[It.A,.B,.T,.U,.G,.H,.X].all fun x=>decide ((0<=bI (f:Nat) (l:Nat) m k x/\bI (f:Nat) (l:Nat) m k x<=100)/\0<=iE (f:Nat) (l:Nat) m k x/\iE (f:Nat) (l:Nat) m k x<=100))=true:=by decide +kernel
theorem in4 {n:Nat} (h:n<=3):n∈List.range 4:=List.mem_range.2 (Nat.lt_succ_of_le h)
theorem Bu {α:Type} {l:List α} {p:α->Bool} {x:α} (h:l.all p=true) (m:x∈l):p x=true:=List.all_eq_true.1 h x m
theorem np {m k:Nat} {f l:Int} (hb:1<=m/\m<=3/\1<=k/\k<=3/\1<=f/\f<=3/\1<=l/\l<=3) (x:It):(0<=bI f l m k x/\bI f l m k x<=100)/\0<=iE f l m k x/\iE f l m k x<=100:=by
 obtain ⟨m0,m1,k0,k1,f0,f1,l0,l1⟩:=hb
 obtain ⟨f,rfl⟩:=Int.eq_ofNat_of_zero_le (HP (by decide) f0)
 obtain ⟨l,rfl⟩:=Int.eq_ofNat_of_zero_le (HP (by decide) l0)
 have e:=Bu wD (in4 m1)
 replace e:=Bu e (in4 k1)
 replace e:=Bu e (in4 (Int.ofNat_le.1 f1))
 replace e:=Bu e (in4 (Int.ofNat_le.1 l1))
 exact of_decide_eq_true (Bu e (x:=x) (by rcases x with _|_<;>decide))
theorem wz {ns:List (Nat×Nat)} {t:List Nat}:lB ns []++t=lB ns t:=by rcases ns with _|_<;>simp [lB]
theorem tY {X:Hd} {ns:List (Nat×Nat)} {p:Option ((Nat×Nat)×Option (Nat×Nat))}:(X.txt++lB ns [])++rY p=vU X ns p:=by
 rw [HT,wz]
 rcases p with _|_<;>rfl
theorem CR {m k:Nat} {f l:Int} {X:Hd} {ns:List (Nat×Nat)} {p:Option ((Nat×Nat)×Option (Nat×Nat))} (ok:yR X):iN (iE f l m k) (bI f l m k) (ft m k) X.it (nvs ns) (iG p)=oK (rU (b6 k m f l) X.who (ns.map (·.2))) p:=by
 have hi:ins (ns.map (·.2))=nvs ns:=by simp [ins,nvs]
 unfold iN rU
 rw [ok.who,hi]
 rcases hx:X.it with _|x
 ·rw [show s8 none=[] from rfl,if_pos rfl]
  rcases p with _|_<;>rfl
 ·rw [show s8 (some x)=ky x from rfl,if_neg (by rcases x with _|_<;>decide),j6]
  dsimp only
  unfold cO
  have hB:∀q,(if (nvs ns).length=(et x).length then (lH (bI f l m k) (ft m k) (et x) (nvs ns) (iE f l m k x)).bind fun o=>lC (bI f l m k x) o q else none)=(if (nvs ns).length=(et x).length then lH (bI f l m k) (ft m k) (et x) (nvs ns) (iE f l m k x) else none).bind fun o=>lC (bI f l m k x) o q:=fun q=>by
   split<;>rfl
  rw [hB,hB]
  generalize (if (nvs ns).length=(et x).length then lH (bI f l m k) (ft m k) (et x) (nvs ns) (iE f l m k x) else none)=B
  rcases B with _|o
  ·cases p<;>rfl
  ·rcases p with _|⟨b,q⟩
   ·rfl
   ·show (match lC (bI f l m k x) o (iG (some (b,q))) with|some (o,z)=>V.tup [.int o,.int z]|none=>.str [114,117,110])=(match lC (bI f l m k x) o (some ((b.2:Int),q.map fun a=>(a.2:Int))) with|some oz=>ozV oz|none=>.str [114,117,110])
    show (match lC (bI f l m k x) o (some ((b.2:Int),q.map fun a=>(a.2:Int))) with|some (o,z)=>V.tup [.int o,.int z]|none=>.str [114,117,110])=_
    cases lC (bI f l m k x) o (some ((b.2:Int),q.map fun a=>(a.2:Int)))<;>rfl
theorem yG {m k:Nat} {f l:Int} {X:Hd} {ns:List Nat} (hb:1<=m/\m<=3/\1<=k/\k<=3/\1<=f/\f<=3/\1<=l/\l<=3) (ok:yR X) (hv:∀v∈ns,v<=3):(∃o z,rU (b6 k m f l) X.who ns=.tup [.int o,.int z]/\0<=o/\o<=1000/\0<=z/\z<=1000)\/∃s,rU (b6 k m f l) X.who ns=.str s:=by
 unfold rU
 rw [ok.who]
 rcases hx:X.it with _|x
 ·exact .inr ⟨_,if_pos rfl⟩
 ·rw [show s8 (some x)=ky x from rfl,if_neg (by rcases x with _|_<;>decide),j6]
  unfold cO
  split
  ·rcases ho:lH (bI f l m k) (ft m k) (et x) (ins ns) (iE f l m k x) with _|o
   ·exact .inr ⟨_,rfl⟩
   ·have b1:=u6 (fun t=>(np hb t).1) _ _ _ _ (fun q hq=>by
     obtain ⟨v,hv',rfl⟩:=List.mem_map.1 hq
     have:=hv v hv';omega) ho
    have b2:=np hb x
    have b3:=kU x
    exact .inl ⟨o,bI f l m k x,rfl,by omega,by omega,by omega,by omega⟩
  ·exact .inr ⟨_,rfl⟩
end
section
theorem B8:∀X∈HL,∃z,aC X.txt (-1)=some z/\az [z] [41]=false:=by
 have h:∀X∈HL,(match aC X.txt (-1) with|some z=>!az [z] [41]|none=>false)=true:=by decide +kernel
 intro X hX
 have:=h X hX
 revert this
 rcases aC X.txt (-1) with _|z
 ·intro e;injection e
 ·intro e;exact ⟨z,rfl,by simpa using e⟩
theorem vo {T:List Nat} {z:Nat} (hl:T.length<=900):aC (T++[z]) (-1)=some z:=by
 unfold aC
 rw [if_neg (by rw [bU (by omega)];simp),if_neg (by omega),if_pos (by simp;omega)]
 rw [show (-1+((T++[z]).length:Int)).toNat=T.length by simp;omega]
 simp
theorem xD {T:List Nat} {z:Nat} (hl:(T++[z]).length<=100000):fU (T++[z]) .none (.int (-1))=some T:=by
 have hc:bo (T++[z]).length (-1)=T.length:=by unfold bo;simp;omega
 refine (oY (a:=0) (b:=bo (T++[z]).length (-1)) rfl rfl hl).trans ?_
 rw [hc]
 simp
theorem nj (w v:Nat):(spK w v).length<=7/\∀kw∈spK w v,kw.2.length<=1:=by
 rcases gh w v with e|⟨u,-,e⟩|e<;>rw [e]<;>exact ⟨by simp,by simp⟩
theorem u7:∀l:List (Nat×Nat),(nsK l).length<=7*l.length/\∀kw∈nsK l,kw.2.length<=1
 |[]=>⟨by simp [nsK],by simp [nsK]⟩
 |a::l=>by
  have h1:=nj a.1 a.2
  have h2:=u7 l
  refine ⟨by rw [nsK,List.length_append,List.length_cons];omega,fun kw hk=>?_⟩
  rw [nsK] at hk
  rcases List.mem_append.1 hk with q|q
  ·exact h1.2 kw q
  ·exact h2.2 kw q
theorem yg:∀l:List (Bool×List Nat),(∀a∈l,a.2.length<=30)->(qK l).length<=2*l.length/\∀kw∈qK l,kw.2.length<=30
 |[],_=>⟨by simp [qK],by simp [qK]⟩
 |a::l,h=>by
  have h2:=yg l fun b hb=>h b (by simp [hb])
  refine ⟨by rw [qK,List.length_cons,List.length_cons,List.length_cons];omega,fun kw hk=>?_⟩
  rw [qK] at hk
  rcases List.mem_cons.1 hk with rfl|q
  ·rcases a.1 with _|_<;>decide
  ·rcases List.mem_cons.1 q with rfl|q
   ·exact h a (by simp)
   ·exact h2.2 kw q
theorem zG {X:Hd} {ns:List (Nat×Nat)} {p:Option ((Nat×Nat)×Option (Nat×Nat))} (ok:yR X) (hl:ns.length<=3):(js X.name X.ql ns p).length<=900/\∀kw∈js X.name X.ql ns p,kw.2.length<=100:=by
 have h1:=yg X.ql ok.qn
 have h2:(jr ns).length<=23/\∀kw∈jr ns,kw.2.length<=1:=by
  rcases ns with _|⟨a,l⟩
  ·exact ⟨by simp [jr],by simp [jr]⟩
  ·have:=u7 (a::l)
   refine ⟨by rw [jr,List.length_cons,List.length_append];simp only [List.length_cons,List.length_nil] at this hl ⊢;omega,fun kw hk=>?_⟩
   rw [jr] at hk
   rcases List.mem_cons.1 hk with rfl|q
   ·decide
   ·rcases List.mem_append.1 q with q|q
    ·exact this.2 kw q
    ·rw [List.mem_singleton.1 q];decide
 have h3:(dS p).length<=17/\∀kw∈dS p,kw.2.length<=1:=by
  rcases p with _|⟨b,l⟩
  ·exact ⟨by simp [dS],by simp [dS]⟩
  ·have hb:=nj b.1 b.2
   have hl:(mW l).length<=7/\∀kw∈mW l,kw.2.length<=1:=by
    rcases l with _|a
    ·exact ⟨by simp [mW],by simp [mW]⟩
    ·exact nj a.1 a.2
   refine ⟨by simp only [dS,List.length_cons,List.length_append,List.length_nil];omega,fun kw hk=>?_⟩
   rw [dS] at hk
   rcases List.mem_cons.1 hk with rfl|q
   ·decide
   ·rcases List.mem_append.1 q with q|q
    ·exact hb.2 kw q
    ·rcases List.mem_cons.1 q with rfl|q
     ·decide
     ·rcases List.mem_append.1 q with q|q
      ·exact hl.2 kw q
      ·rw [List.mem_singleton.1 q];decide
 refine ⟨by rw [pN];have:=ok.ql;omega,fun kw hk=>?_⟩
 unfold js at hk
 rcases List.mem_cons.1 hk with rfl|q
 ·have:=ok.nl.1;show X.name.length<=100;omega
 ·rcases List.mem_append.1 q with q|q
  ·have:=h1.2 kw q;omega
  ·rcases List.mem_append.1 q with q|q
   ·have:=h2.2 kw q;omega
   ·have:=h3.2 kw q;omega
theorem zF {X:Hd} {ns:List (Nat×Nat)} {p:Option ((Nat×Nat)×Option (Nat×Nat))} (ok:yR X) (hl:ns.length<=3):(vU X ns p).length<=900:=by
 rw [<-tY,List.length_append,List.length_append]
 have h1:=ok.nl.2
 have h2:=pF ns
 have h3:(rY p).length<=40:=by
  rcases p with _|⟨b,l⟩
  ·simp [rY]
  ·have:=gN b.1 b.2
   rcases l with _|a
   ·simp [rY,i6,Ba];omega
   ·have:=gN a.1 a.2;simp [rY,i6,Ba];omega
 omega
section
variable {D:DAd} {t c sd:Nat} {K:Int} {h h':H} {m k:Nat} {f l:Int}
theorem Fd {n:Nat} {X:Hd} {ns:List (Nat×Nat)} {p:Option ((Nat×Nat)×Option (Nat×Nat))} {ρ:Loc} (hb:1<=m/\m<=3/\1<=k/\k<=3/\1<=f/\f<=3/\1<=l/\l<=3) (W:TW t c sd K (b6 k m f l) D (iE f l m k) (bI f l m k) (ft m k) h) (hX:X∈HL) (hl:ns.length<=3) (hv:∀a∈ns,a.2<=3) (hp:fN p)
  (r49:ρ.lookup 49=some (.ref D.d)) (r84:ρ.lookup 84=some (.str (vU X ns p))) (r135:ρ.lookup 135=some (oK (rU (b6 k m f l) X.who (ns.map (·.2))) p)):
  ∃h',exs PT0 (a9 PT0 1000 (n+13)) 1000 [rW,vT] ρ h=.ok (.next,ρ) h'/\Ex h h':=by
 have ok:=yX hX
 have s9:fW ns:=fun a ha=>by have:=hv a ha;omega
 obtain ⟨b1,b2⟩:=zG (p:=p) ok hl
 have bT:=zF (p:=p) ok hl
 have H:=fun S F=>@xh n (vU X ns p) (js X.name X.ql ns p) X.name (X.ql.map (·.2)) (nvs ns) (iG p) D (iE f l m k) (bI f l m k) (ft m k) h X.it S F
 obtain ⟨h1,e1,X1⟩:=H W.data ok.find (CO ok s9 hp) bT b1 b2 (by rw [on];have:=ok.ql;omega) (fun r tl nd ts=>Fv ok.gw ok.gq s9 (by omega) hp r tl nd ts) (fun q hq=>by
  obtain ⟨a,ha,rfl⟩:=List.mem_map.1 hq
  have:=hv a ha;omega) (by rw [on];omega) (fun y=>by have:=(np hb y).1;omega)
 rw [CR ok] at e1
 clear W
 generalize D.d=d at e1 r49
 have kind:(∃o z,oK (rU (b6 k m f l) X.who (ns.map (·.2))) p=.tup [.int o,.int z])\/∃s,oK (rU (b6 k m f l) X.who (ns.map (·.2))) p=.str s:=by
  rcases yG (X:=X) hb ok (fun v hv'=>by obtain ⟨a,ha,rfl⟩:=List.mem_map.1 hv';exact hv a ha) with ⟨o,z,e,-⟩|⟨s,e⟩<;>rw [e]
  ·rcases p with _|⟨b,q⟩
   ·exact .inl ⟨o,z,rfl⟩
   ·unfold oK
    dsimp only
    generalize lC z o _=w
    rcases w with _|oz
    ·exact .inr ⟨_,rfl⟩
    ·exact .inl ⟨_,_,rfl⟩
  ·exact .inr ⟨s,by rcases p with _|_<;>rfl⟩
 have s11:ex PT0 (a9 PT0 1000 (n+13)) 1000 rW ρ h=.ok (.next,ρ) h1:=by
  have cs:=xF (h:=h1) kind
  rcases kind with ⟨o,z,e⟩|⟨s,e⟩
  ·rw [e] at e1 r135 cs
   delta rW;exact HZ
  ·rw [e] at e1 r135 cs
   delta rW;exact HZ
 by_cases hne:ns≠[]\/p≠none
 ·obtain ⟨T,hT,hxT⟩:=CP ok s9 hp hne
  have hTl:T.length<=899:=by rw [hT,List.length_append] at bT;simp at bT;omega
  obtain ⟨h2,e2,X2⟩:=vt (n:=n) (d:=d) (h:=h1) (w:=X.name) (qs:=X.ql.map (·.2)) hxT (by omega) (by rw [List.length_dropLast];omega) (fun kw hk=>b2 kw (List.dropLast_subset _ hk)) (by rw [on];have:=ok.ql;omega) (fun r tl nd ts=>Gc ok.gw ok.gq s9 (by omega) hp hne r tl nd ts)
  refine ⟨h2,aQ.trans (ck s11 (aS (aQ.trans (ck (q:=.ok (.next,ρ) h2) ?_ (aS sr))))),X1.trans X2⟩
  rw [hT] at r84 bT
  have i1:=vo (T:=T) (z:=41) (by omega)
  have c1:=xD (T:=T) (z:=41) (by omega)
  have lT:(T++[41]).length<=100000:=by omega
  delta vT
  exact HZ
 ·obtain ⟨z,z1,z2⟩:=B8 X hX
  have hn:ns=[]:=(Decidable.not_not.1 fun q=>hne (.inl q))
  have hpn:p=none:=(Decidable.not_not.1 fun q=>hne (.inr q))
  rw [hn,hpn,show vU X [] none=X.txt from th _] at r84
  refine ⟨h1,aQ.trans (ck s11 (aS (aQ.trans (ck (q:=.ok (.next,ρ) h1) ?_ (aS sr))))),X1⟩
  delta vT
  exact HZ
end
end
section
section
variable {D:DAd} {t c sd:Nat} {K:Int} {h h':H} {m k:Nat} {f l:Int}
theorem z8 {n:Nat} {ρ:Loc} (hb:1<=m/\m<=3/\1<=k/\k<=3/\1<=f/\f<=3/\1<=l/\l<=3) (ha:oM (b6 k m f l)=true) (W:TW t c sd K (b6 k m f l) D (iE f l m k) (bI f l m k) (ft m k) h) (hK:K < 700)
  (r115:ρ.lookup 115=some (.ref t)) (r49:ρ.lookup 49=some (.ref D.d)) (r85:ρ.lookup 85=some (.ref sd)):
  ∃ρ' h',exs PT0 (a9 PT0 1000 (n+13)) 1000 gS ρ h=.ok (.next,ρ') h'/\ρ'.lookup 115=some (.ref t)/\ρ'.lookup 49=some (.ref D.d)/\ρ'.lookup 85=some (.ref sd)/\TW t c sd (K+14) (b6 k m f l) D (iE f l m k) (bI f l m k) (ft m k) h':=by
 obtain ⟨X,ns,L,h1,ρ1,hX,hl,hv,go1,a115,a49,a85,a84,a121,a98,gL,n1,n2,W1⟩:=Fi (n:=n+11) W (by omega) r115 r49 r85
 have ok:=yX hX
 obtain ⟨ls,h2,ρ2,hls,go2,b115,b49,b85,b84,b121,b98,gL2,W2⟩:=Fh (n:=n+11) (rest:=[tn6,tn7,tn8,tn9,lG,rW,vT]) W1 (by omega) hl hv ok.nl.2 a115 a49 a85 a84 a121 a98 gL n1 n2
 have go3:=Fg (n:=n+11) (rest:=[tn7,tn8,tn9,lG,rW,vT]) W2 ha hl b85 b121 b98 gL2
 have lsl:ls.length<=3:=by have:=congrArg List.length hls;rw [on] at this;omega
 have st:=pF ls
 have nl:=ok.nl.2
 obtain ⟨w,b,q,h3,ρ3,hw,hb4,hq4,go4,c115,c49,c85,c84,c135,c131,c65,c66,W3⟩:=Ff (n:=n+11) (tx:=X.txt++lB ls []) (rest:=[lG,rW,vT]) (ρ:=(135,rU (b6 k m f l) X.who ns)::ρ2) W2 (by omega) (by rw [List.length_append];omega) (by exact I0) (by exact I0) (by exact I0) (by exact I0) bZ
 obtain ⟨h4,ρ4,go5,d115,d49,d85,d84,d135,X4⟩:=Fe (n:=n+11) (rest:=[rW,vT]) W3 hw hb4 hq4 (yG hb ok hv) c115 c49 c85 c84 c135 c131 c65 c66
 have W4:=W3.ex X4
 have hp:fN (mX w b q):=by
  rcases (by omega:w=0\/w=1\/w=2) with rfl|rfl|rfl
  ·trivial
  ·exact ⟨by omega,fun a e=>by injection e⟩
  ·exact ⟨by omega,fun a e=>by (injection e with e;subst e);omega⟩
 subst hls
 obtain ⟨h5,e5,X5⟩:=Fd (n:=n) (X:=X) (ns:=ls) (p:=mX w b q) hb W4 hX lsl (fun a ha'=>hv a.2 (List.mem_map.2 ⟨a,ha',rfl⟩)) hp d49 (by rw [d84,tY]) d135
 exact ⟨ρ4,h5,go1 _ (go2 _ (go3 _ (go4 _ (go5 _ e5)))),d115,d49,d85,(W4.ex X5).up (by omega) (by omega)⟩
end
theorem CU (x:It):∃as:List Int,Key.t (kks x)=kL (ky x) as/\∀(f l:Int) (m k:Nat),1<=m->1<=k->cO (iE f l m k) (bI f l m k) (ft m k) x as none=some (iE f l m k x,bI f l m k x):=by
 rcases x with _|_
 case G=>exact ⟨[],rfl,fun Z Z Z Z Z Z=>rfl⟩
 case H=>exact ⟨[],rfl,fun Z Z Z Z Z Z=>rfl⟩
 case X=>exact ⟨[],rfl,fun Z Z Z Z Z Z=>rfl⟩
 case T=>
  refine ⟨[1],rfl,fun f l m k hm hk=>?_⟩
  show (if (1:Int)<=1/\(1:Int)<=(k:Int) then some (3+(1 - 1)*(f+m*l)) else none).bind _=_
  rw [if_pos (by omega),show (3:Int)+(1 - 1)*(f+m*l)=3 by simp];rfl
 case A=>
  refine ⟨[1],rfl,fun f l m k hm hk=>?_⟩
  show (if (1:Int)<=1/\(1:Int)<=(k:Int) then some (3+(1 - 1)*(f+m*l)) else none).bind _=_
  rw [if_pos (by omega),show (3:Int)+(1 - 1)*(f+m*l)=3 by simp];rfl
 all_goals
  refine ⟨[1,1],rfl,fun f l m k hm hk=>?_⟩
  show (if (1:Int)<=1/\(1:Int)<=(k:Int) then (if (1:Int)<=1/\(1:Int)<=(m:Int) then some (3+f+(1 - 1)*(f+m*l)+(1 - 1)*l) else none) else none).bind _=_
  rw [if_pos (by omega),if_pos (by omega),show 3+f+(1 - 1)*(f+m*l)+(1 - 1)*l=3+f by simp];rfl
theorem rS {m k:Nat} {f l:Int}:oM (b6 k m f l)=true:=by
 have hi:∀(one l:Int) (k:Nat) (s:List (Key×V)×Int),oM s.1=true->oM (cc one l k s).1=true:=by
  intro one l k s hs
  induction k with
  |zero=>exact hs
  |succ k ih=>exact dZ (dZ ih)
 have ho:∀k:Nat,oM (bM m f l k ([],3)).1=true:=by
  intro k
  induction k with
  |zero=>rfl
  |succ k ih=>exact dZ (hi _ _ _ _ (dZ ih))
 exact dZ (dZ (dZ (ho k)))
theorem AO {α:Type} {l:List α} {i:Nat} (hl:l.length<=100000):fU l .none (.int (i:Int))=some (l.take i):=by
 refine (oY (a:=0) (b:=bo l.length i) rfl rfl hl).trans ?_
 rw [jd,List.drop_zero]
 by_cases h:i<=l.length
 ·rw [Nat.min_eq_left h]
 ·rw [Nat.min_eq_right (by omega),List.take_length,List.take_of_length_le (by omega)]
end
section
theorem vB {k m:Nat} {f l:Int} (hk:k=1\/k=2\/k=3) (hm:m=1\/m=2\/m=3):Fix (.dict (b6 k m f l)):=fun d=>by
 rcases hk with rfl|rfl|rfl<;>rcases hm with rfl|rfl|rfl<;>kernel_rfl
theorem xb {n:Nat} {xs:List Int} {ρ0:Loc} (hx:0 < xs.length/\xs.length<=60) (r0:ρ0.lookup 115=some (.ref 1)):∃h' ρ',exs PT0 (a9 PT0 1000 (n+13)) 1000 s6.body.tail ρ0 (H2 xs 0)=.ok (.ret (.bool true),ρ') h':=by
 obtain ⟨m,k,f,l,ys,e1,hm,hk,hf,hl,hy⟩:=wC (n:=n+11) hx
 have e2:=xC (n:=n+10) (o0:=.list (ys.map .int)) (o1:=.list [.ref 0,.int 4]) (f:=f) (l:=l) k m hk hm
 have off:∀x,qt (b6 k m f l) x=(iE f l m k x,bI f l m k x):=fun x=>by
  obtain ⟨as,e,r⟩:=CU x
  unfold qt
  rw [e,j6,r f l m k (by omega) (by omega)];rfl
 rw [show (fun x=>(qt (b6 k m f l) x).1)=iE f l m k from funext fun x=>congrArg Prod.fst (off x),show (fun x=>(qt (b6 k m f l) x).2)=bI f l m k from funext fun x=>congrArg Prod.snd (off x)] at e2
 let h1:H:=[.list (ys.map .int),.list [.ref 0,.int 4],.dict (b6 k m f l),lV m k]
 let h2:H:=Bs (.list (ys.map .int)) (.list [.ref 0,.int 4]) (.dict (b6 k m f l)) (iE f l m k) (bI f l m k) (ft m k)
 have fs:=vB (f:=f) (l:=l) hk hm
 have W2:TW 1 0 2 4 (b6 k m f l) D0 (iE f l m k) (bI f l m k) (ft m k) h2:=
  ⟨⟨⟨4,ys,by decide,by decide,rfl,rfl,by omega,by omega⟩,by decide,by decide⟩,⟨rfl,_,_,_,[],qb ys,fun Z=>rfl,fs,(th _).symm⟩,rfl,rfl,rfl⟩
 let J:Nat->Loc->H->Prop:=fun i ρ h=>i<=4/\ρ.lookup 115=some (.ref 1)/\ρ.lookup 49=some (.ref 4)/\ρ.lookup 85=some (.ref 2)/\TW 1 0 2 (4+14*i) (b6 k m f l) D0 (iE f l m k) (bI f l m k) (ft m k) h
 let Q:R (Fl×Loc)->Prop:=fun q=>∃ρ' h',q=.ok (.next,ρ') h'
 let ρ1:Loc:=(49,.ref 4)::(120,.ref 3)::(85,.ref 2)::ρ0
 obtain ⟨r,er,ρ',h',rfl⟩:=ut (J:=J) (Q:=Q) (L:=4) (nx:=b5 (isL (.rng 0 4) h2) (.rng 0 4) (av 0 4)) (st:=oH [133] true) (b:=exs PT0 (a9 PT0 1000 (n+13)) 1000 gS) (by
  rintro i ρ h ⟨hi,r115,r49,r85,W⟩
  by_cases hi2:i < 4
  ·obtain ⟨ρ',h',e,a115,a49,a85,W'⟩:=z8 (n:=n) (ρ:=(133,.int (0+(i:Int)))::ρ) ⟨by omega,by omega,by omega,by omega,by omega,by omega,by omega,by omega⟩ rS W (by omega) (by first|(exact I0;done)|exact r49) (by first|(exact I0;done)|exact r49) (by first|(exact I0;done)|exact r49)
   exact .next _ _ _ h' (yk (tV (by omega))) rfl e hi2 ⟨by omega,a115,a49,a85,W'.up (by omega) (by omega)⟩
  ·obtain rfl:i=4:=by omega
   exact .stop (yk (zC (by omega))) ⟨ρ,h,rfl⟩) 99999 0 ρ1 h2 (by omega) ⟨by omega,by exact I0,rfl,rfl,W2⟩
 have ir:items (.rng 0 4) h2=some (av 0 4):=sR (by decide)
 refine ⟨h',ρ',?_⟩
 show exs PT0 (a9 PT0 1000 (n+13)) 1000 [_,_,_,_] _ _=_
 exact HZ
end
section
open W PyProof.Rows
noncomputable def lk0:Look:={ strict:=false,foot:=none,bare:=[] }
noncomputable def GI:{ s:String // rX=Str.ofString s }:=⟨_,rfl⟩
theorem Fr:GI.1=String.ofList (RES.map Char.ofNat):=by kernel_rfl
theorem Gf:(RES.map Char.ofNat).map Char.toNat=RES:=by kernel_rfl
theorem GK:rX=⟨RES.toArray⟩:=by
 (rewrite +offsetCnstrs [GI.2,Str.ofString_eq_toList,Fr,String.toList_ofList,Gf];try with_reducible rfl)
theorem CJ:roadStr ⟨RES.toArray⟩=false:=by
 unfold roadStr
 (rewrite +offsetCnstrs [<-Array.any_toList,<-Array.any_toList,<-Array.any_toList];try with_reducible rfl)
 kernel_rfl
theorem FJ:lk0.str ⟨RES.toArray⟩=true:=by
 unfold Look.str
 (rewrite +offsetCnstrs [CJ];try with_reducible rfl)
 kernel_rfl
theorem HB:(["vars","dir","locals"]:List Str).filter (readsOut pw pw.main.body)=[]:=by kernel_rfl
theorem n_a:noRoadLSs lk0 (bd.take 49)=true:=by kernel_rfl
theorem n_b:noRoadLSs lk0 (bd.drop 50)=true:=by kernel_rfl
noncomputable def aX:Stmt->List Expr×Nat×Pos×Pos
 |.Assign t (.Constant _ a b) p=>(t,a,b,p)
 |_=>([],0,default,default)
theorem Hz:sA 49=.Assign (aX (sA 49)).1 (.Constant (.str rX) (aX (sA 49)).2.1 (aX (sA 49)).2.2.1) (aX (sA 49)).2.2.2:=by kernel_rfl
theorem FM (lk:Look) (t:List Expr) (x:Str) (a:Nat) (b p:Pos):noRoadLS lk (.Assign t (.Constant (.str x) a b) p)=(lk.stores t&&noRoadLs lk t&&lk.str x):=by kernel_rfl
theorem Hp:noRoadLS lk0 (sA 49)=true:=by
 (rewrite +offsetCnstrs [Hz,FM,GK,FJ];try with_reducible rfl)
 kernel_rfl
theorem BK (lk:Look):∀a b:List Stmt,noRoadLSs lk (a++b)=(noRoadLSs lk a&&noRoadLSs lk b)
 |[],b=>rfl
 |s::a,b=>by
  show (noRoadLS lk s&&noRoadLSs lk (a++b))=((noRoadLS lk s&&noRoadLSs lk a)&&noRoadLSs lk b)
  (rewrite +offsetCnstrs [BK lk a b,Bool.and_assoc];try with_reducible rfl)
theorem Hq:pw.main.body=bd.take 49++(sA 49::bd.drop 50):=by kernel_rfl
theorem Hs:({ strict:=!(importedModules pw.main.body).all cThrough.contains,foot:=none,bare:=(["vars","dir","locals"]:List Str).filter (readsOut pw pw.main.body) }:Look)=lk0:=by
 (rewrite +offsetCnstrs [HB];try with_reducible rfl);kernel_rfl
theorem CM:noRoadLSs { strict:=!(importedModules pw.main.body).all cThrough.contains,foot:=none,bare:=(["vars","dir","locals"]:List Str).filter (readsOut pw pw.main.body) } pw.main.body=true:=by
 (rewrite +offsetCnstrs [Hs,Hq,BK,n_a];try with_reducible rfl)
 show (true&&(noRoadLS lk0 (sA 49)&&noRoadLSs lk0 (bd.drop 50)))=true
 (rewrite +offsetCnstrs [Hp,n_b];try with_reducible rfl);rfl
theorem A4:looksOpen pw=true:=by
 unfold looksOpen
 (rewrite +offsetCnstrs [CM];try with_reducible rfl)
 kernel_rfl
theorem CX:rw0.row.partSaid=true:=by
 unfold OpenRow.partSaid
 (rewrite +offsetCnstrs [show looksOpen rw0.row.prog=true from A4];try with_reducible rfl)
 kernel_rfl
theorem BM:rw0.row.wellSaid=true:=by
 unfold OpenRow.wellSaid
 (rewrite +offsetCnstrs [CX];try with_reducible rfl)
 kernel_rfl
theorem FQ:rw0.wellSaid=true:=by
 unfold OpenLaw.wellSaid
 (rewrite +offsetCnstrs [BM];try with_reducible rfl)
 kernel_rfl
end
section
open W PyProof.Rows
theorem CZ:rw0.row.prog.bare:=⟨by kernel_rfl,by kernel_rfl,by kernel_rfl,by kernel_rfl,by kernel_rfl,by kernel_rfl⟩
theorem CW:rw0.row.toRowW.promised:=⟨[.list [.int 3,.int 1]],by kernel_rfl,by kernel_rfl⟩
theorem A9 (call:WalkX qv lsv (fun Z Z=>True) (fun s:Shared=>s.heap) (fun w:World=>H1 w.params) rw0.row.toRowW dL [] fun f vs=>PySem.call f vs):rw0.Holds:=
 ⟨FQ,holds_openX D9 (fun Z Z=>trivial) (fun Z Z Z Z Z=>trivial) FR FP Hv (fun s Z=>⟨fun x hx=>(nomatch hx),fun x hx=>(nomatch hx),fun Z Z Z h=>(nomatch h),fun Z Z h=>(nomatch h)⟩) (by decide) BM Hu CZ CW call⟩
end
section
open W PyProof.Rows
noncomputable def idL:List String:=["append","extend","pop","get","split","join","replace","index","k","self","what","at","__init__","low","high","depending","keys","indexes","level","name","picture_text","usage","sign","is_separate","occurs","redefines","value","is_justified","is_blank_zero","conditions","kids","parent","renames","base","offset","size","shape","kid","often","told","first","named","one","clauses","working","linkage","files","sorts","item","data","found","line","root","above","around","FIGURE_NAMES","reader","depth","ahead","is_sign","peek","read_expr","need_sign","skip_sign","fault","begin","length","qualifiers","one_of","subscripts","part","is_kind","octets","figure","worth","take","is_number","signed","skip","top","alike","tables","table","subscript","text","spots","places","bottom","units","scale","a","is_rounded","half","figures","number","behind","point","word","numbers","bytes","tokens","token","kind","words","is_word","is_name","is_below","is_in_a","signs","end","quote","pair","was_is","place","lines","tape","limit","cells","spot","cell","counts","who","key","add","many","more","last","two","expr","ref","is_done","way","script","turn","spoil","due","held"]
noncomputable def C0:CV:=⟨idL.map S,[(S "_wall",.fn 21),(S "__name__",.str [108,97,119,95,112,98,48,50,56,52,95,48,49]),(S "LedgerError",.cls 47),(S "TokenFault",.cls 60),(S "GrammarFault",.cls 72),(S "CheckFault",.cls 84),(S "RunFault",.cls 96),(S "FILLER",.str [70,73,76,76,69,82]),(S "Occurs",.cls 125),(S "Item",.cls 172),(S "Data",.cls 198),(S "records",.fn 209),(S "items_under",.fn 216),(S "all_items",.fn 223),(S "items_around",.fn 230),(S "root_of",.fn 237),(S "names_around",.fn 242),(S "tables_around",.fn 247),(S "MOST_SUBSCRIPTS",.int (7)),(S "is_part_next",.fn 255),(S "read_subscripts",.fn 262),(S "read_part",.fn 269),(S "read_ref",.fn 276),(S "read_all",.fn 283),(S "read_figure",.fn 290),(S "read_operand",.fn 297),(S "file_of",.fn 302),(S "leads_through",.fn 309),(S "only_one",.fn 316),(S "find_item",.fn 321),(S "stretch",.fn 328),(S "QUOTES",.str [34,39]),(S "Line",.cls 352),(S "FIGURES_decimals",.str [48,49,50,51,52,53,54,55,56,57]),(S "cut_quotient",.fn 363),(S "decimal",.fn 371),(S "negated",.fn 378),(S "units_at",.fn 385),(S "is_whole",.fn 392),(S "whole_of",.fn 399),(S "worth_of",.fn 406),(S "read_decimal",.fn 413),(S "MOST_OCTET",.int (255)),(S "RESERVED",.str RES),(S "is_reserved",.fn 420),(S "octets_of_text",.fn 425),(S "Reader",.cls 594),(S "LETTERS",.str [65,66,67,68,69,70,71,72,73,74,75,76,77,78,79,80,81,82,83,84,85,86,87,88,89,90]),(S "FIGURES_tokens",.str [48,49,50,51,52,53,54,55,56,57]),(S "WORD_SIGNS",.str [65,66,67,68,69,70,71,72,73,74,75,76,77,78,79,80,81,82,83,84,85,86,87,88,89,90,48,49,50,51,52,53,54,55,56,57,45]),(S "SINGLE_SIGNS",.str [40,41,58,43,45,42,47,61,60,62]),(S "DOUBLE_SIGNS",.str [42,42,32,60,61,32,62,61]),(S "ENDS",.str [46,44,59]),(S "MOST_WORD",.int (30)),(S "MOST_FIGURES",.int (18)),(S "MOST_LITERAL",.int (160)),(S "Token",.cls 624),(S "capital_of",.fn 635),(S "capitals",.fn 640),(S "is_word_sign",.fn 647),(S "is_parted",.fn 654),(S "line_fault",.fn 661),(S "run_end",.fn 668),(S "number_end",.fn 675),(S "literal_end",.fn 682),(S "picture_end",.fn 689),(S "checked_word",.fn 694),(S "checked_number",.fn 701),(S "checked_literal",.fn 708),(S "checked_picture",.fn 715),(S "need_apart",.fn 722),(S "mark_at",.fn 729),(S "worth_at",.fn 736),(S "is_blank_at",.fn 743),(S "is_picture_next",.fn 750),(S "add_tokens",.fn 757),(S "is_word_is",.fn 764),(S "tokens_of",.fn 771),(S "_law_heads",.tup [.tup [.str [65,32,79,70,32,84],.str [65],.int (1)],.tup [.str [65,32,73,78,32,71],.str [65],.int (1)],.tup [.str [65,32,79,70,32,72],.str [72,65],.int (0)],.tup [.str [66],.str [66],.int (2)],.tup [.str [98,32,111,102,32,85,32,105,110,32,84,32,111,102,32,71],.str [66],.int (2)],.tup [.str [85],.str [85],.int (2)],.tup [.str [84,32,73,78,32,71],.str [84],.int (1)],.tup [.str [71],.str [71],.int (0)],.tup [.str [65,32,73,78,32,70],.str [72,65],.int (0)],.tup [.str [72,32,79,70,32,70],.str [72],.int (0)],.tup [.str [65],.str [],.int (0)],.tup [.str [66,32,79,70,32,72],.str [],.int (2)],.tup [.str [65,32,79,70,32,71,32,79,70,32,84],.str [],.int (1)],.tup [.str [85,45,49],.str [],.int (0)]]),(S "_law_draw",.fn 793),(S "_law_data",.fn 800),(S "_law_spots",.fn 807),(S "_law_read",.fn 814),(S "_law_one",.fn 821),(S "_law_worth",.fn 828),(S "_law_heard",.fn 833),(S "_law_spelled",.fn 840),(S "law",.fn 845),(S "len",.bf .len),(S "ord",.bf .ord),(S "chr",.bf .chr),(S "min",.bf .min),(S "max",.bf .max),(S "abs",.bf .abs),(S "isinstance",.bf .isinst),(S "range",.bt .range),(S "tuple",.bt .tuple),(S "list",.bt .list),(S "zip",.bt .zip),(S "str",.bt .str),(S "Exception",.bt .exception),(S "FIGURE_NAMES",.fn 248)]⟩
structure FE where
 a:Addr
 st:Stmt
 q:Str
 m:Value
 d:Value
 fi:aA
noncomputable def FL:List FE:=[⟨37,mA 2 0,S "LedgerError.__init__",.str (S "ledgerspeak.errors") 194,.ref 30,f37⟩,⟨115,mA 9 0,S "Occurs.__init__",.str (S "ledgerspeak.items") 300,.ref 108,H9⟩,⟨143,mA 10 0,S "Item.__init__",.str (S "ledgerspeak.items") 300,.none,H8⟩,⟨150,mA 10 1,S "Item.add",.str (S "ledgerspeak.items") 300,.none,H7⟩,⟨190,mA 11 0,S "Data.__init__",.str (S "ledgerspeak.items") 300,.none,H6⟩,⟨209,sA 12,fNm (sA 12),.str (S "ledgerspeak.items") 300,.none,H5⟩,⟨216,sA 13,fNm (sA 13),.str (S "ledgerspeak.items") 300,.none,H4⟩,⟨223,sA 14,fNm (sA 14),.str (S "ledgerspeak.items") 300,.none,H3⟩,⟨230,sA 15,fNm (sA 15),.str (S "ledgerspeak.items") 300,.none,H0⟩,⟨237,sA 16,fNm (sA 16),.str (S "ledgerspeak.items") 300,.none,GZ⟩,⟨242,sA 17,fNm (sA 17),.str (S "ledgerspeak.items") 300,.none,GY⟩,⟨247,sA 18,fNm (sA 18),.str (S "ledgerspeak.items") 300,.none,GX⟩,⟨255,sA 22,fNm (sA 22),.str (S "ledgerspeak.references") 522,.none,E7⟩,⟨262,sA 23,fNm (sA 23),.str (S "ledgerspeak.references") 522,.none,E6⟩,⟨269,sA 24,fNm (sA 24),.str (S "ledgerspeak.references") 522,.none,Bc⟩,⟨276,sA 25,fNm (sA 25),.str (S "ledgerspeak.references") 522,.none,vW⟩,⟨290,sA 27,fNm (sA 27),.str (S "ledgerspeak.references") 522,.none,EU⟩,⟨297,sA 28,fNm (sA 28),.str (S "ledgerspeak.references") 522,.none,E5⟩,⟨302,sA 29,fNm (sA 29),.str (S "ledgerspeak.references") 522,.none,GW⟩,⟨309,sA 30,fNm (sA 30),.str (S "ledgerspeak.references") 522,.none,GV⟩,⟨316,sA 31,fNm (sA 31),.str (S "ledgerspeak.references") 522,.none,GU⟩,⟨321,sA 32,fNm (sA 32),.str (S "ledgerspeak.references") 522,.none,GT⟩,⟨328,sA 33,fNm (sA 33),.str (S "ledgerspeak.references") 522,.none,Bp⟩,⟨342,mA 36 0,S "Line.__init__",.str (S "ledgerspeak.columns") 669,.none,ET⟩,⟨371,sA 40,fNm (sA 40),.str (S "ledgerspeak.decimals") 711,.ref 364,ES⟩,⟨406,sA 45,fNm (sA 45),.str (S "ledgerspeak.decimals") 711,.none,ER⟩,⟨413,sA 46,fNm (sA 46),.str (S "ledgerspeak.decimals") 711,.none,EQ⟩,⟨420,sA 50,fNm (sA 50),.str (S "ledgerspeak.reader") 786,.none,EP⟩,⟨440,mA 52 0,S "Reader.__init__",.str (S "ledgerspeak.reader") 786,.ref 433,EO⟩,⟨448,mA 52 1,S "Reader.peek",.str (S "ledgerspeak.reader") 786,.ref 441,E4⟩,⟨455,mA 52 2,S "Reader.is_done",.str (S "ledgerspeak.reader") 786,.none,EN⟩,⟨462,mA 52 3,S "Reader.fault",.str (S "ledgerspeak.reader") 786,.none,EM⟩,⟨469,mA 52 4,S "Reader.take",.str (S "ledgerspeak.reader") 786,.none,EL⟩,⟨477,mA 52 5,S "Reader.is_kind",.str (S "ledgerspeak.reader") 786,.ref 470,EK⟩,⟨484,mA 52 6,S "Reader.is_word",.str (S "ledgerspeak.reader") 786,.none,EJ⟩,⟨491,mA 52 7,S "Reader.skip",.str (S "ledgerspeak.reader") 786,.none,E3⟩,⟨505,mA 52 9,S "Reader.one_of",.str (S "ledgerspeak.reader") 786,.none,Bo⟩,⟨520,mA 52 11,S "Reader.is_name",.str (S "ledgerspeak.reader") 786,.ref 513,EH⟩,⟨527,mA 52 12,S "Reader.name",.str (S "ledgerspeak.reader") 786,.none,E2⟩,⟨542,mA 52 14,S "Reader.is_sign",.str (S "ledgerspeak.reader") 786,.ref 535,EG⟩,⟨549,mA 52 15,S "Reader.skip_sign",.str (S "ledgerspeak.reader") 786,.none,E1⟩,⟨556,mA 52 16,S "Reader.need_sign",.str (S "ledgerspeak.reader") 786,.none,E0⟩,⟨563,mA 52 17,S "Reader.is_number",.str (S "ledgerspeak.reader") 786,.none,EF⟩,⟨570,mA 52 18,S "Reader.signed",.str (S "ledgerspeak.reader") 786,.none,EE⟩,⟨614,mA 63 0,S "Token.__init__",.str (S "ledgerspeak.tokens") 1012,.ref 607,ED⟩,⟨635,sA 64,fNm (sA 64),.str (S "ledgerspeak.tokens") 1012,.none,EC⟩,⟨640,sA 65,fNm (sA 65),.str (S "ledgerspeak.tokens") 1012,.none,EB⟩,⟨647,sA 66,fNm (sA 66),.str (S "ledgerspeak.tokens") 1012,.none,EA⟩,⟨668,sA 69,fNm (sA 69),.str (S "ledgerspeak.tokens") 1012,.none,Ez⟩,⟨675,sA 70,fNm (sA 70),.str (S "ledgerspeak.tokens") 1012,.none,Ey⟩,⟨694,sA 73,fNm (sA 73),.str (S "ledgerspeak.tokens") 1012,.none,Ew⟩,⟨701,sA 74,fNm (sA 74),.str (S "ledgerspeak.tokens") 1012,.none,Ev⟩,⟨722,sA 77,fNm (sA 77),.str (S "ledgerspeak.tokens") 1012,.none,Eu⟩,⟨729,sA 78,fNm (sA 78),.str (S "ledgerspeak.tokens") 1012,.none,Et⟩,⟨736,sA 79,fNm (sA 79),.str (S "ledgerspeak.tokens") 1012,.none,Bn⟩,⟨743,sA 80,fNm (sA 80),.str (S "ledgerspeak.tokens") 1012,.none,DZ⟩,⟨750,sA 81,fNm (sA 81),.str (S "ledgerspeak.tokens") 1012,.none,Es⟩,⟨757,sA 82,fNm (sA 82),.str (S "ledgerspeak.tokens") 1012,.none,Er⟩,⟨771,sA 84,fNm (sA 84),.str (S "ledgerspeak.tokens") 1012,.none,Ep⟩,⟨793,sA 87,fNm (sA 87),.str (S "law_pb0284_01") 1266,.none,Eo⟩,⟨800,sA 88,fNm (sA 88),.str (S "law_pb0284_01") 1266,.none,GS⟩,⟨807,sA 89,fNm (sA 89),.str (S "law_pb0284_01") 1266,.none,En⟩,⟨814,sA 90,fNm (sA 90),.str (S "law_pb0284_01") 1266,.none,Bm⟩,⟨821,sA 91,fNm (sA 91),.str (S "law_pb0284_01") 1266,.none,Bk⟩,⟨828,sA 92,fNm (sA 92),.str (S "law_pb0284_01") 1266,.none,DY⟩,⟨833,sA 93,fNm (sA 93),.str (S "law_pb0284_01") 1266,.none,DX⟩,⟨840,sA 94,fNm (sA 94),.str (S "law_pb0284_01") 1266,.none,Bj⟩,⟨845,sA 95,fNm (sA 95),.str (S "law_pb0284_01") 1266,.none,s6⟩]
end
section
open W PyProof.Rows
theorem F3:fnT=FL.map (fun e=>(e.a,e.fi)):=by kernel_rfl
theorem F1:∀P:Params,FL.map (fun e=>(T96 P).get e.a)=FL.map (fun e=>some (fF e.st e.q e.m e.d (e.a - 1))):=by intro P;kernel_rfl
noncomputable def CE (o:Option Obj):Option Str:=match o with
 |some ⟨_,_,.fields vs,_⟩=>(match vs[1]? with|some (Value.str q _)=>some q|_=>none)
 |_=>none
theorem F5:∀P:Params,FL.map (fun e=>CE ((T96 P).get (e.a - 1)))=FL.map (fun e=>some e.q):=by intro P;kernel_rfl
end
section
open W PyProof.Rows
theorem F2:FL.all (fun e=>td C0 (fAr e.st)==some e.fi.params&&gG C0 (fSc e.st) e.fi.body (fBd e.st))=true:=by kernel_rfl
end
section
open W PyProof.Rows
noncomputable def Eb (f:V->Value->Bool):List V->List Value->Bool
 |[],[]=>true
 |v::vs,x::xs=>f v x&&Eb f vs xs
 |_,_=>false
noncomputable def Bx (f:Addr->Bool):Value->Bool
 |.ref a=>f a
 |_=>false
theorem pz {f:Addr->Bool} {x:Value} (h:Bx f x=true):∃a,x=.ref a/\f a=true:=by
 revert h
 rcases x with _|_<;>first|exact fun h=>⟨_,rfl,h⟩|exact fun h=>(Bool.false_ne_true h).elim
noncomputable def GE (f:Array Value->Bool):Data->Bool
 |.seq ys _=>f ys
 |_=>false
theorem tR {f:Array Value->Bool} {d:Data} (h:GE f d=true):∃ys k,d=.seq ys k/\f ys=true:=by
 revert h
 rcases d with _|_<;>first|exact fun h=>⟨_,_,rfl,h⟩|exact fun h=>(Bool.false_ne_true h).elim
noncomputable def vrB (G:Nat->Option Obj):Nat->V->Value->Bool
 |0,_,_=>false
 |n+1,v,x=>match v with
  |.none=>x==.none
  |.bool b=>x==.bool b
  |.int i=>iIs i x
  |.str s=>sIs s x
  |.tup xs=>Bx (fun a=>(G a).any fun o=>GE (fun ys=>(o.cls==.type "tuple" && ku ys.toList)&&Eb (vrB G n) xs ys.toList) o.data) x
  |.fn a=>x==.ref a
  |.cls a=>x==.ref a
  |.bt T=>x==.type T.name
  |.bf i=>x==.builtin i.name
  |_=>false
theorem sv {h:Heap} {f:V->Value->Bool} (hf:∀v x,f v x=true->am [] h v x):∀vs xs,Eb f vs xs=true->aj [] h vs xs
 |[],[],_=>.nil
 |[],_::_,e=>by cases e
 |_::_,[],e=>by cases e
 |v::vs,x::xs,e=>by
  obtain ⟨a,b⟩:=Bool.and_eq_true_iff.mp e
  exact .cons (hf _ _ a) (sv hf vs xs b)
theorem yS {h:Heap} {G:Nat->Option Obj} (hG:∀a o,G a=some o->h.get? a=some o):∀n v x,vrB G n v x=true->am [] h v x:=by
 intro n
 induction n with
 |zero=>exact fun v x e=>nomatch e
 |succ n ih=>
  intro v x e
  cases v with
  |none=>exact eq_of_beq e▸.none
  |bool b=>exact eq_of_beq e▸.bool _
  |int i=>obtain ⟨t,q⟩:=sS e;exact q▸.int _ _
  |str s=>obtain ⟨t,q⟩:=sG e;exact q▸.str _ _
  |tup xs=>
   obtain ⟨a,rfl,e⟩:=pz e
   refine ac e fun o g e=>?_
   obtain ⟨ys,k,hd,e⟩:=tR e
   refine a7 e fun e1 e2=>?_
   refine a7 e1 fun e0 e1=>?_
   exact .tup ⟨o,k,hG _ _ g,eq_of_beq e0,hd,e1⟩ (sv ih _ _ e2)
  |fn a=>exact eq_of_beq e▸.fn _
  |cls a=>exact eq_of_beq e▸.cls _
  |bt T=>exact eq_of_beq e▸.bt _
  |bf i=>exact eq_of_beq e▸.bf _
  |_=>exact nomatch e
end
section
open W PyProof.Rows
noncomputable def Hc (e:FE):Bool:=(fSc e.st).kind==.function&&!(fSc e.st).isCoroutine&&!(fSc e.st).isGenerator&&((fAr e.st).args.all fun x=>(fSc e.st).names.lookup x.arg==some .local||(fSc e.st).names.lookup x.arg==some .cell)&&decide ((fSc e.st).names.map (·.1)).Nodup&&((fSc e.st).names.all fun y=>y.2 != .free)&&decide e.fi.params.Nodup&&decide (e.fi.dflts.length<=e.fi.params.length)
theorem F4:FL.all Hc=true:=by kernel_rfl
noncomputable def EY (G:Nat->Option Obj) (e:FE):Bool:=match e.fi.dflts with
 |[]=>e.d==.none
 |l=>vrB G 4 (.tup l) e.d
theorem F6:∀P:Params,FL.all (EY (T96 P).get)=true:=by intro P;kernel_rfl
theorem iy {α β:Type} [BEq α] [LawfulBEq α] {l:List (α×β)} {a:α} {b:β} (h:l.lookup a=some b):(a,b)∈l:=by
 induction l with
 |nil=>injection h
 |cons e r ih=>
  rw [so] at h
  rcases q:a==e.1 with _|_
  ·rw [q] at h;exact List.mem_cons_of_mem _ (ih h)
  ·rw [q] at h;(injection h with h;subst h);rw [eq_of_beq q];exact List.mem_cons_self ..
theorem yp {α β:Type} {f g:α->β} {l:List α} (h:l.map f=l.map g) {e:α} (he:e∈l):f e=g e:=List.map_inj_left.mp h e he
theorem Dx {B:Heap} {P:Params} (hB:∀a o,(T96 P).get a=some o->B.get? a=some o) {e:FE} (h6:EY (T96 P).get e=true) (hl:e.fi.dflts.length<=e.fi.params.length):
  (match e.fi.dflts with|[]=>e.d=.none|l=>∃T ys,e.d=.ref T/\gM B T ys/\aj [] B l ys/\l.length<=e.fi.params.length):=by
 unfold EY at h6
 revert h6 hl
 rcases e.fi.dflts with _|⟨x,r⟩
 ·intro h6 _;exact eq_of_beq h6
 ·intro h6 hl
  obtain ⟨a,q,e⟩:=pz h6
  refine ac e fun o g e=>?_
  obtain ⟨ys,k,hd,e⟩:=tR e
  refine a7 e fun e1 e2=>?_
  refine a7 e1 fun e0 e1=>?_
  exact ⟨a,ys.toList,q,⟨o,k,hB _ _ g,eq_of_beq e0,hd,e1⟩,sv (yS hB 3) _ _ e2,hl⟩
set_option tactic.hygienic true in
theorem sW {B:Heap} {P:Params} (hB:∀a o,(T96 P).get a=some o->B.get? a=some o) {e:FE} (he:e∈FL):wi C0 B e.a e.fi.params e.fi.dflts (fBd e.st) (fSc e.st):=by
 have e1:=yp (F1 P) he
 have e2:=List.all_eq_true.mp F2 e he
 have e5:=yp (F5 P) he
 have e4:=List.all_eq_true.mp F4 e he
 have e6:=List.all_eq_true.mp (F6 P) e he
 refine a7 e2 fun q1 q2=>?_
 replace q1:=eq_of_beq q1
 unfold Hc at e4
 simp only [Bool.and_eq_true,Bool.not_eq_true',Bool.or_eq_true,beq_iff_eq,decide_eq_true_eq,List.all_eq_true,bne_iff_ne] at e4
 obtain ⟨⟨⟨⟨⟨⟨⟨c1,c2⟩,c3⟩,c4⟩,c5⟩,c6⟩,c7⟩,c8⟩:=e4
 refine ⟨_,_,hB _ _ e1,rfl,fNm e.st,e.q,fAr e.st,e.d,.none,.none,e.m,.ref (e.a - 1),.none,none,rfl,?_,q1,c1,c2,c3,c4,c5,c6,c7,Dx hB e6 c8⟩
 revert e5
 rcases g:(T96 P).get (e.a - 1) with _|o
 ·intro e5;injection e5
 ·obtain ⟨oc,od,dt,sl⟩:=o
  rcases dt with _|_<;>(try (intro e5;cases e5;done))
  rename_i vs
  intro e5
  have e5:(match vs[1]? with|some (Value.str q _)=>some q|_=>none)=some e.q:=e5
  rcases hv:vs[1]? with _|v
  ·rw [hv] at e5;injection e5
  ·rw [hv] at e5
   rcases v with _|_<;>(try (cases e5;done))
   rename_i q t
   (injection e5 with e5;subst e5)
   exact ⟨_,_,vs,t,rfl,hB _ _ g,rfl,hv⟩
theorem Dc {B:Heap} {P:Params} (hB:∀a o,(T96 P).get a=some o->B.get? a=some o):∀a fi,PT0.fn.lookup a=some fi->Hf C0 B a fi:=by
 intro a fi h
 have hm:(a,fi)∈FL.map (fun e=>(e.a,e.fi)):=by rw [<-F3];exact iy h
 obtain ⟨e,he,heq⟩:=List.mem_map.mp hm
 obtain ⟨rfl,rfl⟩:=Prod.mk.inj heq
 exact ⟨_,_,sW hB he,(aV (List.all_eq_true.mp F2 e he)).2⟩
end
section
open W PyProof.Rows
noncomputable def adK:List Nat:=[47,46,60,59,72,71,84,83,96,95,125,124,172,171,198,197,352,351,594,593,624,623]++[21,37,44,115,122,143,150,157,164,169,190,195,209,216,223,230,237,242,247,255,262,269,276,283,290,297,302,309,316,321,328,342,349,363,371,378,385,392,399,406,413,420,425,440,448,455,462,469,477,484,491,498,505,512,520,527,534,542,549,556,563,570,577,584,591,614,621,635,640,647,654,661,668,675,682,689,694,701,708,715,722,729,736,743,750,757,764,771,793,800,807,814,821,828,833,840,845]
noncomputable def K0 (P:Params):Frag:=adK.filterMap fun a=>((T96 P).get a).map fun o=>(a,o)
theorem F7:∀P:Params,(clT.all fun e=>e.2.exc||yY (K0 P) C0 e.1 e.2)=true:=by intro P;kernel_rfl
end
section
open W PyProof.Rows
theorem gu {c:Addr} (h:isX PT0 c=true):c=60\/c=72\/c=84\/c=96:=by
 unfold isX at h
 rcases e:PT0.cl.lookup c with _|ci
 ·rw [e] at h;injection h
 ·rw [e] at h
  have m:=iy e
  have h2:∀x∈clT,x.2.exc=true->x.1=60\/x.1=72\/x.1=84\/x.1=96:=by decide
  exact h2 _ m h
theorem yK (P:Params):(T96 P).get 60=some (excClassObj (S "TokenFault") (S "TokenFault") 60 59 [.ref 47] (cr 47) true [] [] false none none (some (.ref 51)) none (some (.str (S "TokenFault") 236)) (some (.str (S "TokenFault") 244)) (some (.bool true)) "Exception.__new__"):=by kernel_rfl
theorem yJ (P:Params):(T96 P).get 72=some (excClassObj (S "GrammarFault") (S "GrammarFault") 72 71 [.ref 47] (cr 47) true [] [] false none none (some (.ref 63)) none (some (.str (S "GrammarFault") 252)) (some (.str (S "GrammarFault") 260)) (some (.bool true)) "Exception.__new__"):=by kernel_rfl
theorem yI (P:Params):(T96 P).get 84=some (excClassObj (S "CheckFault") (S "CheckFault") 84 83 [.ref 47] (cr 47) true [] [] false none none (some (.ref 75)) none (some (.str (S "CheckFault") 268)) (some (.str (S "CheckFault") 276)) (some (.bool true)) "Exception.__new__"):=by kernel_rfl
theorem yH (P:Params):(T96 P).get 96=some (excClassObj (S "RunFault") (S "RunFault") 96 95 [.ref 47] (cr 47) true [] [] false none none (some (.ref 87)) none (some (.str (S "RunFault") 284)) (some (.str (S "RunFault") 292)) (some (.bool true)) "Exception.__new__"):=by kernel_rfl
theorem vC {B:Heap} {P:Params} (hB:∀a o,(T96 P).get a=some o->B.get? a=some o):bx PT0 B:=by
 intro c hc
 have no:∀D,isX PT0 D=true->(cr 47).contains (.ref D)=false:=by
  intro D hD
  rcases gu hD with rfl|rfl|rfl|rfl<;>decide
 rcases gu hc with rfl|rfl|rfl|rfl
 ·exact ⟨_,⟨_,_,_,_,_,_,_,_,_,_,_,_,_,_,_,_,hB _ _ (yK P),by decide⟩,no⟩
 ·exact ⟨_,⟨_,_,_,_,_,_,_,_,_,_,_,_,_,_,_,_,hB _ _ (yJ P),by decide⟩,no⟩
 ·exact ⟨_,⟨_,_,_,_,_,_,_,_,_,_,_,_,_,_,_,_,hB _ _ (yI P),by decide⟩,no⟩
 ·exact ⟨_,⟨_,_,_,_,_,_,_,_,_,_,_,_,_,_,_,_,hB _ _ (yH P),by decide⟩,no⟩
theorem vr:qo (fBd (mA 2 0)):=⟨⟨8,8,8,17⟩,⟨8,8,8,26⟩,⟨8,27,8,31⟩,⟨8,33,8,37⟩,⟨8,8,8,38⟩,⟨8,8,8,38⟩,⟨9,8,9,12⟩,⟨9,8,9,17⟩,⟨9,20,9,24⟩,⟨9,8,9,24⟩,⟨10,8,10,12⟩,⟨10,8,10,15⟩,⟨10,18,10,20⟩,⟨10,8,10,20⟩,rfl,by kernel_rfl⟩
theorem Hj (P:Params):([60,72,84,96].all fun c=>findIn (K0 P) (.ref c) "__setattr__" == some (some (.builtin "object.__setattr__"))&&findIn (K0 P) (.ref c) "__init__" == some (some (.ref 37))&&isFn (K0 P) (.ref 37)&&takerIn (K0 P) c "what" == some none&&takerIn (K0 P) c "at" == some none)=true:=by kernel_rfl
theorem CY (P:Params):∀c∈[60,72,84,96],(K0 P).lookup c=(T96 P).get c:=by
 intro c hc
 simp only [List.mem_cons,List.mem_nil_iff,or_false] at hc
 rcases hc with rfl|rfl|rfl|rfl
 ·have:(K0 P).lookup 60=(T96 P).get 60:=by kernel_rfl
  exact this
 ·have:(K0 P).lookup 72=(T96 P).get 72:=by kernel_rfl
  exact this
 ·have:(K0 P).lookup 84=(T96 P).get 84:=by kernel_rfl
  exact this
 ·have:(K0 P).lookup 96=(T96 P).get 96:=by kernel_rfl
  exact this
end
section
open W PyProof.Rows
noncomputable def e37:FE:=⟨37,mA 2 0,S "LedgerError.__init__",.str (S "ledgerspeak.errors") 194,.ref 30,f37⟩
theorem Du:e37∈FL:=.head _
theorem xp {B:Heap} {P:Params} (hB:∀a o,(T96 P).get a=some o->B.get? a=some o):kP C0 PT0 (K0 P) B:=by
 refine ⟨37,⟨⟨fBd (mA 2 0),fSc (mA 2 0),9,10,11,sW hB Du,vr,by kernel_rfl,by kernel_rfl,by kernel_rfl,by kernel_rfl,by kernel_rfl,by kernel_rfl,by kernel_rfl⟩,by kernel_rfl⟩,fun c hc=>⟨47,?_⟩⟩
 have hm:c∈[60,72,84,96]:=by
  rcases gu hc with rfl|rfl|rfl|rfl<;>decide
 have x:=List.all_eq_true.mp (Hj P) c hm
 simp only [Bool.and_eq_true,beq_iff_eq] at x
 obtain ⟨⟨⟨⟨x1,x2⟩,x3⟩,x4⟩,x5⟩:=x
 refine ⟨?_,x1,x2,x3,x4,x5⟩
 have l:=CY P c hm
 rcases gu hc with rfl|rfl|rfl|rfl
 ·exact ⟨_,_,_,_,_,_,_,_,_,_,_,_,_,_,l.trans (yK P)⟩
 ·exact ⟨_,_,_,_,_,_,_,_,_,_,_,_,_,_,l.trans (yJ P)⟩
 ·exact ⟨_,_,_,_,_,_,_,_,_,_,_,_,_,_,l.trans (yI P)⟩
 ·exact ⟨_,_,_,_,_,_,_,_,_,_,_,_,_,_,l.trans (yH P)⟩
end
section
open W PyProof.Rows
noncomputable def yM:Data->Bool
 |.freed=>false
 |_=>true
noncomputable def Br (n:Nat):BT->Nat->Nat->Bool
 |.nil,_,_=>true
 |.node v l r,a,b=>Nat.blt b n&&yM v.data&&Br n l (2*a) (a+b)&&Br n r (2*a) (2*a+b)
theorem nO {n:Nat} {o:Obj}:∀{t:BT} {a b i:Nat},Br n t a b=true->t.get i=some o->b+a*i < n/\yM o.data=true
 |.nil,a,b,i,_,h=>by injection h
 |.node v l r,a,b,i,c,h=>by
  unfold Br at c
  simp only [Bool.and_eq_true] at c
  obtain ⟨⟨⟨c1,c2⟩,c3⟩,c4⟩:=c
  rw [BT.get_node] at h
  by_cases h0:i=0
  ·subst h0
   rw [if_pos rfl] at h
   (injection h with h;subst h)
   have:b < n:=by simpa [Nat.blt_eq] using c1
   exact ⟨by omega,c2⟩
  ·rw [if_neg h0] at h
   by_cases h1:i % 2=1
   ·rw [if_pos h1] at h
    obtain ⟨q,q2⟩:=nO c3 h
    refine ⟨?_,q2⟩
    have hj:=Nat.div_add_mod i 2
    rw [h1] at hj
    generalize i / 2=j at q hj
    subst hj
    have:2*a*j=a*(2*j):=by rw [Nat.mul_comm 2 a,Nat.mul_assoc]
    rw [Nat.mul_add];omega
   ·rw [if_neg h1] at h
    obtain ⟨q,q2⟩:=nO c4 h
    refine ⟨?_,q2⟩
    have hj:=Nat.div_add_mod i 2
    rw [(Nat.mod_two_eq_zero_or_one i).resolve_right h1] at hj
    obtain ⟨j,h2⟩:∃j,i / 2=j+1:=exa (Nat.pos_of_ne_zero fun e=>h0 (by rw [<-hj,e]))
    rw [h2,Nat.add_sub_cancel] at q
    rw [h2] at hj
    subst hj
    have:2*a*j=a*(2*j):=by rw [Nat.mul_comm 2 a,Nat.mul_assoc]
    rw [Nat.mul_add];omega
theorem DJ (P:Params):Br 846 (T96 P) 1 0=true:=by kernel_rfl
theorem yB {P:Params} {a:Nat} {o:Obj} (h:(T96 P).get a=some o):(H1 P).get? a=some o:=by
 obtain ⟨q,q2⟩:=nO (DJ P) h
 have e:=absHeap_at (T96 P) 846 {} a
 rw [if_pos (by omega),h] at e
 unfold Heap.get?
 rw [show (H1 P).objs[a]?=some o from e]
 obtain ⟨c,d,dt,s⟩:=o
 rcases dt with _|_<;>first|rfl|injection q2
end
section
open W PyProof.Rows
noncomputable def glB (mg mb:Str->Option Value) (G:Nat->Option Obj) (e:Str×V):Bool:=!(e.1==("__debug__" : Str))&&(match mg e.1 with
 |some z=>vrB G 4 e.2 z
 |none=>(match mb e.1 with|some z=>vrB G 4 e.2 z|none=>false))
theorem G1 (P:Params):((C0.gl.take 43++C0.gl.drop 44).all (glB ((H1 P).nsMap mainGlobals) ((H1 P).nsMap builtinsNs) (T96 P).get))=true:=by kernel_rfl
theorem G3 (P:Params):(H1 P).nsMap mainGlobals (S "RESERVED")=some (.str rX 790):=by kernel_rfl
end
section
open W PyProof.Rows
theorem nL {G:Nat->Option Obj}:∀(l:List Nat) {a:Nat} {o:Obj},(l.filterMap fun a=>(G a).map fun o=>(a,o)).lookup a=some o->G a=some o
 |[],a,o,h=>by cases h
 |x::l,a,o,h=>by
  rw [List.filterMap_cons] at h
  cases g:G x with
  |none=>rw [g] at h;exact nL l h
  |some p=>
   rw [g] at h
   have h:List.lookup a ((x,p)::_)=some o:=h
   rw [so] at h
   cases q:a==x with
   |true=>rw [q] at h;cases h;rw [eq_of_beq q];exact g
   |false=>rw [q] at h;exact nL l h
theorem A7:C0.ids.length<=1000:=by
 have:Nat.ble C0.ids.length 1000=true:=by kernel_rfl
 exact Nat.le_of_ble_eq_true this
theorem D4:(C0.ids.all fun y=>!(y==("__debug__" : Str))&&!(y==("__classdict__" : Str)))=true:=by kernel_rfl
theorem tG (P:Params):(H1 P).isNs cStatics=true/\(H1 P).nsMap cStatics "sys.recursionlimit" = none:=⟨by kernel_rfl,by kernel_rfl⟩
theorem Cq (P:Params):((T96 P).get sysModules).isSome=true:=by kernel_rfl
theorem yf (P:Params) {B:Heap}:(S "RESERVED" == ("__debug__" : Str))=false/\am [] B (.str RES) (.str rX 790):=by
 refine ⟨by kernel_rfl,?_⟩
 rw [GK];exact .str _ _
theorem BX {B:Heap} {P:Params} (hk:∀a o,(H1 P).get? a=some o->B.get? a=some o):aU C0 PT0 B (K0 P):=by
 have hB:∀a o,(T96 P).get a=some o->B.get? a=some o:=fun a o h=>hk a o (yB h)
 refine ⟨by kernel_rfl,fun a o h=>hB _ _ (nL _ h),A7,fun c ci h he=>?_,?_,?_,?_,fun y x h=>?_,Dc hB⟩
 ·have m:=iy h
  have q:=List.all_eq_true.mp (F7 P) _ m
  simp only [he,Bool.false_or] at q
  exact q
 ·exact ⟨_,(Heap.Ns.of_isNs (tG P).1).keeps hk,(tG P).2⟩
 ·obtain ⟨o,ho⟩:=Option.isSome_iff_exists.mp (Cq P)
  rw [hB _ _ ho];rfl
 ·refine ⟨(H1 P).nsMap mainGlobals,(H1 P).nsMap builtinsNs,(Heap.Ns.of_isNs (by kernel_rfl)).keeps hk,(Heap.Ns.of_isNs (by kernel_rfl)).keeps hk,fun x v h=>?_⟩
  have m:=iy h
  have e:C0.gl=C0.gl.take 43++((S "RESERVED",.str RES)::C0.gl.drop 44):=by kernel_rfl
  rw [e] at m
  have go:(x,v)∈C0.gl.take 43++C0.gl.drop 44->(x==("__debug__" : Str))=false/\∃z,((H1 P).nsMap mainGlobals x=some z\/((H1 P).nsMap mainGlobals x=none/\(H1 P).nsMap builtinsNs x=some z))/\am [] B v z:=by
   intro m
   have q:=List.all_eq_true.mp (G1 P) _ m
   unfold glB at q
   simp only [Bool.and_eq_true,Bool.not_eq_true'] at q
   refine ⟨q.1,?_⟩
   have q:=q.2
   revert q
   cases g:(H1 P).nsMap mainGlobals x with
   |some z=>intro q;exact ⟨z,.inl rfl,yS hB 4 _ _ q⟩
   |none=>
    cases g2:(H1 P).nsMap builtinsNs x with
    |some z=>intro q;exact ⟨z,.inr ⟨rfl,rfl⟩,yS hB 4 _ _ q⟩
    |none=>intro q;cases q
  rcases List.mem_append.mp m with m|m
  ·exact go (List.mem_append_left _ m)
  ·rcases List.mem_cons.mp m with m|m
   ·obtain ⟨rfl,rfl⟩:=Prod.mk.inj m
    exact ⟨(yf P (B:=B)).1,_,.inl (G3 P),(yf P).2⟩
   ·exact go (List.mem_append_right _ m)
 ·have hm:y∈C0.ids:=by
   unfold CV.id at h
   obtain ⟨hl,e,_⟩:=List.idxOf?_eq_some_iff.mp h
   exact e▸List.getElem_mem hl
  have q:=List.all_eq_true.mp D4 y hm
  simp only [Bool.and_eq_true,Bool.not_eq_true'] at q
  exact q
end
section
open W PyProof.Rows SeqAt
section
variable {I5:Program} {w:World} {C:CV} {P:PT} {K:Frag} {B:Heap} {fr:List Env} {A:Around} {env:Env} {ρ:Loc} {cf:V->List V->PM V}
theorem vD {y:Str} {i L:Nat} {k:Nat} {p1 p3 pos:Pos} {lo hi':Option Expr} {l t:List V} {ys:Array Value} {lit:PE} (FX:aU C P B K) (hi:C.id y=some i) (hk:sg (env.scope.names.lookup y)=true) (hl:ρ.lookup i=some (.fn L))
  {ol:Obj} (hB:B.get? L=some ol) (hcl:ol.cls=.type "list") (hdt:ol.data=.seq ys k) (r:aj [] B l ys.toList) (ht:fU l .none (.int 60)=some t) (hlo:lX I5 w C P B fr A env ρ cf lo .none) (hhi:lX I5 w C P B fr A env ρ cf hi' (.int 60)) (he:∀hh,ev P cf lit ρ hh=.ok (.ref hh.length) (hh++[.list t])):
  bh I5 w C P B fr A env ρ cf (.Subscript (.Name y p1) (.Slice lo hi' none p3) pos) lit:=by
 intro as hh s h0 N Q E h
 rw [he] at h
 have h1:ai I5 w C B am fr ay as s ((ev P cf (.loc i) ρ hh).bd fun Z h=>(ev P cf .none ρ h).bd fun Z h=>(ev P cf (.int 60) ρ h).bd fun Z h=>.ok (.ref h.length) (h++[.list t])) Q E:=by
  show ai I5 w C B am fr ay as s ((eB (ρ.lookup i) hh).bd _) Q E
  rw [hl]
  exact h
 refine Subscript_ (Sim.run h0 (oW FX hi hk as hh s h0 N) h1 fun v I9 I8 s₁ x hm p rv h=>wpAny_Slice ?_)
 have Ii:=N.post h0.R p
 replace hm:eB (ρ.lookup i) hh=.ok v I9:=hm
 rw [hl] at hm
 cases hm
 rw [show x=.ref L from rv.inv]
 refine Sim.run p.here (hlo _ _ _ p.here Ii) h fun Jr Js Jt Ju y' Ji Il Jj h=>?_
 cases Ji
 rw [show y'=.none from Jj.inv]
 refine Sim.run Il.here (hhi _ _ _ Il.here (Ii.post p.rel Il)) h fun Iv Ig Ia I6 z IR I7 Ih h=>?_
 rw [evalPart_none]
 refine wpAny_pure (kA ?_)
 cases IR
 obtain ⟨q,c2,rfl⟩:=hV (n:=l.length) (d:=l.length) Ih rfl
 have g:=I7.here.R.base _ _ hB
 have g':=ak { cls:=.type "slice",data:=.fields #[partValue none,partValue q,.none] } _ _ g
 have hlen:l.length=ys.size:=r.length
 have r':aj Ia I6.heap l ys.toList:=(am.mono' (as:=[]) (as':=Ia) ⟨Ia,rfl⟩ fun a o e Z=>I7.here.R.base a o e).2 r
 obtain ⟨_,_,_,_,hz,_⟩:=iY ht
 obtain ⟨a,b,rfl,e⟩:=qf (items:=ys) lK.none c2 hlen ht
 refine ⟨⟨"list",_,(show I6.heap.push { cls:=.type "slice",data:=.fields #[partValue none,partValue q,.none] } |>.IsList L ys from ⟨ol,g',hcl,k,hdt⟩).typeIs,slot_list_getitem.lookup⟩,?_⟩
 refine wpAny_getItem_list_slice ⟨ol,g',hcl,k,hdt⟩ (Heap.IsSliceOf.new ..) lK.none.isPart c2.isPart .none nofun ?_ (aR (by omega))
 rw [e]
 exact ai.list (s:=I6) (tk:=I6.toks) (k:=0) I7.here h (fun a o e=>ak _ _ _ (ak _ _ _ e)) (HW (by simp [Heap.push])) (HU _ rfl) ((r'.take b).drop a)
theorem vJ {sc:Scope} {a b:PE} {es:List Expr} (h:fV C sc [a,b] es=true):∃e1 e2,es=[e1,e2]/\dB e1=true/\dB e2=true/\bG C sc a e1=true/\bG C sc b e2=true:=by
 match es,h with
 |[],h=>injection h
 |[_],h=>cases (aV h).2
 |e1::e2::r,h=>
  refine a7 h fun h1 h=>?_
  refine a7 h fun h2 h=>?_
  refine a7 h1 fun h1 h3=>?_
  refine a7 h2 fun h2 h4=>?_
  exact ⟨e1,e2,by rw [show r=[] from aL h],h1,h2,h3,h4⟩
theorem vK {sc:Scope} {a:PE} {es:List Expr} (h:fV C sc [a] es=true):∃e1,es=[e1]/\dB e1=true/\bG C sc a e1=true:=by
 match es,h with
 |[],h=>injection h
 |e1::r,h=>
  refine a7 h fun h1 h=>?_
  refine a7 h1 fun h1 h3=>?_
  exact ⟨e1,by rw [show r=[] from aL h],h1,h3⟩
noncomputable def iO (i j:Nat) (lit:PE):PS:=.asg i (.list [.or (.call (.stat (.bt .list)) [lit]) (.list [.int 0]),.int 0])
theorem wA {n k i j L:Nat} {st:Stmt} {l t:List V} {ys:Array Value} {kk:Nat} {lit:PE} (FX:aU C P B K) (hA:AOK A fr n) (CK:cj I5 w C B P cf n) (SE:bP B fr env)
  (h:E8 C env.scope (iO i j (.slice (.loc j) .none (.int 60))) st=true)
  {ol:Obj} (hB:B.get? L=some ol) (hcl:ol.cls=.type "list") (hdt:ol.data=.seq ys kk) (r:aj [] B l ys.toList) (ht:fU l .none (.int 60)=some t) (he:∀ρ hh,ev P cf lit ρ hh=.ok (.ref hh.length) (hh++[.list t])):
  ∀ρ as hh s,ρ.lookup j=some (.fn L)->aP I5 w C B fr as hh s->aF C env ρ as s.heap->∀Q E,ai I5 w C B (cN C P B env) fr (aG env) as s (ex P cf k (iO i j lit) ρ hh) Q E->wpAny (model I5 w) A (exec st env) Q E s:=by
 refine ac h fun tt htt h=>?_
 refine a7 h fun h1 h2=>?_
 obtain ⟨q,rfl⟩:=fO htt
 obtain ⟨y,p0,ey,hid,hk⟩:=kG h1
 refine ac h2 fun es hes h2=>?_
 refine a7 h2 fun h3 h4=>?_
 obtain ⟨q2,e2⟩:=pC hes
 obtain ⟨e1,e0,ees,s1,s0,c1,c0⟩:=vJ h4
 refine ac c1 fun tb htb c1=>?_
 refine a7 c1 fun c1 c3=>?_
 refine a7 c1 fun c1 c2=>?_
 obtain ⟨y1,r1,q3,e3,e4⟩:=kQ htb
 refine ac c2 fun tc htc c2=>?_
 refine a7 c2 fun c2 c5=>?_
 refine a7 c2 fun c4 c2=>?_
 obtain ⟨q4,e5⟩:=g8 htc
 obtain ⟨a1,e6,s2,c5⟩:=vK c5
 refine ac c5 fun ts hts c5=>?_
 refine ac c5 fun tcu htcu c5=>?_
 refine a7 c5 fun c5 c9=>?_
 refine a7 c5 fun c5 c8=>?_
 refine a7 c5 fun c6 c7=>?_
 obtain ⟨q5,e7⟩:=iR hts
 obtain ⟨q6,e8⟩:=n8 htcu
 refine ac c7 fun ys1 hys1 c7=>?_
 obtain ⟨q7,e9⟩:=dX hys1
 refine a7 c7 fun d1 d2=>?_
 intro ρ as hh s hl h0 N Q E h
 have X:=fun p e (h:bG C env.scope p e=true)=>(aB FX hA CK p e env ρ h).1
 rw [e3] at ees s1
 rw [e5] at ees s1
 rw [e6,e7,e8,e9,cG c6] at ees s1
 rw [e7,e8,e9,cG c6] at s2
 rw [e4] at c3
 have EV1:=vD (p1:=q7) (p3:=q6) (pos:=q5) FX (eq_of_beq d1) d2 hl hB hcl hdt r ht (kE c8 fun x hx=>X _ x hx) (kE c9 fun x hx=>X _ x hx) (he ρ)
 have EV2:=uF (pos:=q4) c4 (X _ _ c2) (.cons s2 EV1 .nil) (uK hA CK)
 have hor:=eq_of_beq c1
 rw [hor] at ees s1 c3
 have EV3:=uE (pos:=q2) (Nat.le_of_ble_eq_true rfl) (.cons s1 (BY EV2 (X _ _ c3)) (.cons s0 (X _ _ c0) .nil))
 rw [ey,e2,ees]
 refine wpAny_Assign_Name (Sim.runE h0 (N.ownOK h0.R) (EV3 as hh s h0 N) h fun v I9 I8 s₁ z Z p rv h=>?_) rfl
 exact dP p.here (N.post h0.R p) SE hk hid rv fun I6 I7 Id=>ai.nextS (ai.after p.here I7 h) I7.here Id
end
end
section
theorem qd {P:PT} {cf:V->List V->PM V} {ρ:Loc} {h:H}:∀xs:List Int,evs P cf (xs.map .int) ρ h=.ok (xs.map .int) h
 |[]=>rfl
 |x::xs=>uG rfl (qd xs)
theorem yE {P:PT} {cf:V->List V->PM V} {ρ:Loc} {h:H} {xs:List Int} (hx:xs.length<=60):ev P cf (.list (xs.map .int)) ρ h=.ok (.ref h.length) (h++[.list (xs.map .int)]):=
 yF (qd xs) (mY (by rw [on];omega))
theorem ud {n L:Nat} {xs:List Int} {t:H} (hx:0 < xs.length/\xs.length<=60):∃h' ρ',exs PT0 (a9 PT0 1000 (n+13)) 1000 s6.body.tail [(115,.ref (1+t.length)),(132,.fn L)] (t++[.list (xs.map .int),.list [.ref (0+t.length),.int 0]])=.ok (.ret (.bool true),ρ') h':=by
 obtain ⟨h',ρ',e⟩:=xb (n:=n) (ρ0:=[(115,.ref 1),(132,.fn L)]) hx rfl
 have F:=fX (k:=0) (t:=t) (P:=PT0) (lim:=1000) (frame (lim:=1000) pn (n+13)) s6.body.tail (by kernel_rfl) [(115,.ref 1),(132,.fn L)] (H2 xs 0) (Nat.zero_le _)
 rw [e,show up 0 t (H2 xs 0)=t++[.list (xs.map .int),.list [.ref (0+t.length),.int 0]] from congrArg (fun l=>t++[O.list l,.list [.ref (0+t.length),.int 0]]) (List.map_map.trans rfl)] at F
 exact ⟨_,_,F.2⟩
theorem zU {n L:Nat} {xs:List Int} (hx:xs.length<=60):∃h' ρ',exs PT0 (a9 PT0 1000 (n+13)) 1000 (iO 115 132 (.list (xs.map .int))::s6.body.tail) [(132,.fn L)] []=.ok (.ret (.bool true),ρ') h':=by
 have el:ev PT0 (a9 PT0 1000 (n+13)) (.list (xs.map .int)) [(132,.fn L)] []=.ok (.ref 0) [.list (xs.map .int)]:=yE hx
 have l1:(xs.map V.int).length<=100000:=by rw [on];omega
 have q1:bJ (a9 PT0 1000 (n+13)) (.bt .list) [.ref 0] [.list (xs.map .int)]=.ok (.ref 1) [.list (xs.map .int),.list (xs.map .int)]:=tZ rfl l1
 cases xs with
 |nil=>
  obtain ⟨h',ρ',e⟩:=ud (n:=n) (L:=L) (xs:=[0]) (t:=[.list [],.list []]) (by decide)
  exact ⟨h',ρ',aQ.trans (ck rfl (aS e))⟩
 |cons x xs=>
  have tr:truthy (.ref 1) [.list ((x::xs).map .int),.list ((x::xs).map .int)]=some true:=tC rfl l1
  obtain ⟨h',ρ',e⟩:=ud (n:=n) (L:=L) (xs:=x::xs) (t:=[.list ((x::xs).map .int)]) ⟨Nat.succ_pos _,hx⟩
  refine ⟨h',ρ',aQ.trans (ck ?_ (aS e))⟩
  delta iO
  exact HZ
  rfl
end
section
open W PyProof.Rows
theorem uV {I5:Program} {w:World} {C:CV} {s:Shared}:aP I5 w C s.heap [] [] [] s:=
 ⟨⟨fun Z Z e=>e,rfl,fun Z h=>(nomatch h),fun i j p q h=>(nomatch h),fun i o p h=>(nomatch h)⟩,trivial,fun Z h=>(nomatch h)⟩
theorem vL:AOK callerA [] 14:=⟨rfl,rfl,by decide +kernel,by decide⟩
noncomputable def EW:FE:=⟨845,sA 95,fNm (sA 95),.str (S "law_pb0284_01") 1266,.none,s6⟩
theorem uI:EW∈FL:=by
 have:FL[67]?=some EW:=rfl
 exact we this
section
variable {I5:Program} {w:World} {C:CV} {P:PT} {B:Heap} {fr:List Env} {A:Around} {as:AS} {s:Shared} {hh:H} {env:Env} {ρ:Loc} {cf:V->List V->PM V} {n:Nat}
theorem AP {st:Stmt} {r:List Stmt} {p:PS} {ps:List PS} (h0:aP I5 w C B fr as hh s) (S1:Sim I5 w C B (cN C P B env) fr (aG env) A (exec st env) (ex P cf n p ρ hh) as s) (h2:rV I5 w C P B fr A env cf n r ps) (Q:Flow->Shared->Prop) (E:Value->Shared->Prop)
  (h:ai I5 w C B (cN C P B env) fr (aG env) as s (exs P cf n (p::ps) ρ hh) Q E):wpAny (model I5 w) A (execs (st::r) env) Q E s:=by
 refine wpAny_execs_cons (Sim.run h0 S1 h fun v I9 I8 s₁ f Z p rv h=>?_)
 obtain ⟨fl,ρ'⟩:=v
 obtain ⟨fr',N'⟩:=rv
 cases fr' with
 |next=>exact h2 ρ' _ _ _ p.here (N' fun v e=>nomatch e) Q E h
 |cont=>exact ai.now h p.here ⟨.cont,N'⟩
 |ret rv=>exact ai.now h p.here ⟨.ret rv,N'⟩
end
section
variable {I5:Program} {w:World} {s:Shared} {L:Nat} {ol:Obj} {ys:Array Value} {kk:Nat} {xs:List Int}
theorem xc {P:Params} {Rr:Result->Shared->Prop} (hk:∀a o,(H1 P).get? a=some o->s.heap.get? a=some o) (hL:s.heap.get? L=some ol) (hcl:ol.cls=.type "list") (hdt:ol.data=.seq ys kk) (r:aj [] s.heap (xs.map V.int) ys.toList) (hx:xs.length<=100000)
  (hR:∀s' as' hh',aI I5 w C0 s.heap [] ay [] s as' hh' s'->Rr (.ok (.ret (.bool true))) s'):codeAny (model I5 w) callerA (.call (.ref 845) ⟨[.ref L],[]⟩) Rr s:=by
 have hB:∀a o,(T96 P).get a=some o->s.heap.get? a=some o:=fun a o h=>hk a o (yB h)
 have FX:aU C0 PT0 s.heap (K0 P):=BX hk
 have XF:bx PT0 s.heap:=vC hB
 have XM:kP C0 PT0 (K0 P) s.heap:=xp hB
 have CK:=Fo (I5:=I5) (w:=w) FX XF XM 1000 13
 have F:=List.all_eq_true.mp F2 EW uI
 obtain ⟨-,hbody⟩:=aV F
 refine nK (C:=C0) (vs:=[.fn L]) (ρ:=[(132,.fn L)]) (hh:=[]) (as:=[]) (fr:=[]) (sW hB uI) FX.nolimit (by decide +kernel) uV (.cons (.fn L) .nil) rfl fun env I6 eS SE pt h₂ Ij dead Z=>?_
 have hbody:gG C0 env.scope s6.body (fBd (sA 95))=true:=by rw [eS];exact hbody
 have hA:AOK (callerA.deeper env) [env] 13:=vL.deeper
 show wpAny (model I5 w) (callerA.deeper env) (execs (fBd (sA 95)) env) _ _ I6
 generalize fBd (sA 95)=body at hbody
 rcases body with _|⟨st,rest⟩
 ·injection hbody
 ·refine a7 (show (E8 C0 env.scope (iO 115 132 (.slice (.loc 132) .none (.int 60))) st&&gG C0 env.scope s6.body.tail rest)=true from hbody) fun h1 h2=>?_
  have hx60:(xs.take 60).length<=60:=by rw [List.length_take];omega
  have ht:fU (xs.map V.int) .none (.int 60)=some ((xs.take 60).map V.int):=by
   rw [List.map_take]
   exact AO (i:=60) (by rw [on];exact hx)
  have S1:Sim I5 w C0 s.heap (cN C0 PT0 s.heap env) [env] (aG env) (callerA.deeper env) (exec st env) (ex PT0 (a9 PT0 1000 13) 1000 (iO 115 132 (.list ((xs.take 60).map .int))) [(132,.fn L)] []) [] I6:=fun Q E h=>
   wA FX hA CK SE h1 hL hcl hdt r ht (fun ρ hh=>yE hx60) _ _ _ _ rfl h₂ Ij Q E h
  obtain ⟨h',ρ',e⟩:=zU (n:=0) (L:=L) hx60
  refine AP h₂ S1 (cz (k:=1000) FX XF hA CK SE s6.body.tail rest h2) _ _ ?_
  ·show ai I5 w C0 s.heap (cN C0 PT0 s.heap env) [env] (aG env) [] I6 (exs PT0 (a9 PT0 1000 13) 1000 (iO 115 132 (.list ((xs.take 60).map .int))::s6.body.tail) [(132,.fn L)] []) _ _
   rw [e]
   intro as' s₃ fl Ib rr
   have pe:aI I5 w C0 s.heap [] ay [] s as' h' s₃:=pt.under (Ch:=aG env) (by rw [l8];exact Ib.tail) dead
   obtain ⟨rf,_⟩:=rr
   cases rf with
   |ret rv=>
    rcases rv with rv|⟨c,a,ci,e1,_⟩
    ·rw [show _=Value.bool true from rv.inv]
     exact hR s₃ as' h' pe
    ·injection e1
end
end
section
open W PyProof.Rows
theorem int_of {d:WData} (h:WShape.has [] d .int=true):∃i,d=.int i:=by
 rcases d with _|_<;>first|exact ⟨_,rfl⟩|exact (Bool.false_ne_true h).elim
theorem uk {h:Heap} {cl:Str->Option Addr}:∀(ds:List WData) (vs:List Value) (as:List Addr),WShape.hasItems [] ds .int=true->ReadsAllW [] cl h vs ds as->∃xs:List Int,aj [] h (xs.map V.int) vs/\xs.length=ds.length
 |[],vs,as,_,hr=>by cases hr;exact ⟨[],.nil,rfl⟩
 |d::ds,vs,as,hh,hr=>by
  refine a7 (show (WShape.has [] d .int&&WShape.hasItems [] ds .int)=true from hh) fun h1 h2=>?_
  cases hr with
  |cons r1 r2=>
   obtain ⟨i,rfl⟩:=int_of h1
   obtain ⟨xs,e,l⟩:=uk ds _ _ h2 r2
   cases r1
   exact ⟨i::xs,.cons (.int _ _) e,by rw [List.length_cons,List.length_cons,l]⟩
theorem list_of {d:WData} (h:WShape.has [] d (.list .int)=true):∃ds,d=.list ds/\WShape.hasItems [] ds .int=true:=by
 induction d using PySem.W.WData.casesOn with
 |list ds=>exact ⟨ds,rfl,by
   have h':(WShape.hasItems [] ds .int||false)=true:=h
   rw [Bool.or_false] at h';exact h'⟩
 |_=>exact (Bool.false_ne_true h).elim
theorem B7 {args:List WData} (h:WShape.hasAll [] args [.list .int]=true):∃d,args=[d]/\WShape.has [] d (.list .int)=true:=by
 match args,h with
 |[],h=>injection h
 |[d],h=>exact ⟨d,rfl,(aV (show (WShape.has [] d (.list .int)&&WShape.hasAll [] [] [])=true from h)).1⟩
 |d::d2::r,h=>cases (aV (show (WShape.has [] d (.list .int)&&WShape.hasAll [] (d2::r) [])=true from h)).2
theorem rh {ds:List WData} (h:WTm.holds [] rw0.pre { args:=[.list ds] }=true):ds.length<=63:=by
 have e:WTm.holds [] rw0.pre { args:=[.list ds] }=!decide ((63:Int) < (ds.length:Int)):=by
  show WTm.holds [] (.and (.not (.lt (.lit (.int 63)) (.len (.arg 0)))) (.lit (.bool true))) _=_
  have q:less? (.int 63) (.int (ds.length:Int))=some (decide ((63:Int) < (ds.length:Int))):=rfl
  simp only [WTm.holds,WTm.value,List.getElem?_cons_zero,q,Option.map_some]
  cases decide ((63:Int) < (ds.length:Int))<;>rfl
 rw [e] at h
 have:=of_decide_eq_false (by simpa using h:decide ((63:Int) < (ds.length:Int))=false)
 omega
theorem D5:WalkX qv lsv (fun Z Z=>True) (fun s:Shared=>s.heap) (fun w:World=>H1 w.params) rw0.row.toRowW dL [] fun f vs=>PySem.call f vs:=by
 intro w Im s₁ mg mb G hY a o pm cd doc dV kV ho hd hcr hdf hn hgens args vals as L hpre hlay hreads hwell hsys
 have hk:∀b o,(H1 w.params).get? b=some o->s₁.heap.get? b=some o:=fun b o e=>L.keeps b o (by rw [show Im.heap=H1 w.params from hY];exact e)
 have FX:aU C0 PT0 s₁.heap (K0 w.params):=BX hk
 obtain ⟨mg',mb',G',_,hgl⟩:=FX.glob
 have em:mg=mg':=G.T.g.eq_nsMap.trans G'.eq_nsMap.symm
 obtain ⟨_,z,hz,rv⟩:=hgl (S "law") (.fn 845) (by kernel_rfl)
 have enm:dL.name=S "law" := by kernel_rfl
 have hn':mg' (S "law")=some (.ref a):=by rw [<-em,<-enm];exact hn
 have ea:a=845:=by
  rw [show z=.ref 845 from rv.inv] at hz
  rcases hz with hz|⟨hz,_⟩
  ·exact Value.ref.inj (be (hn'.symm.trans hz))
  ·rw [hn'] at hz;injection hz
 obtain ⟨p1,p2⟩:=aV (show (WShape.hasAll [] args [.list .int]&&WTm.holds [] rw0.pre { args:=args })=true from hpre)
 obtain ⟨d,rfl,p3⟩:=B7 p1
 obtain ⟨ds,rfl,p4⟩:=list_of p3
 have hl:=rh p2
 cases hreads with
 |cons r1 r2=>
  cases r2
  cases r1 with
  |list g hc hdt rs=>
   obtain ⟨xs,e,l⟩:=uk _ _ _ p4 rs
   rw [ea]
   refine wpAny_call (xc (xs:=xs) hk g hc hdt e (by omega) fun s' as' hh' p=>?_)
   refine ⟨.inl ⟨.bool true,.bool true,[],rfl,fun Z=>rfl,.bool _,?_,fun Z=>⟨List.nodup_nil,fun Z h=>nomatch h⟩⟩,.of_keep p.rel.base,p.os,.of_eq (p.gens.trans hgens)⟩
   kernel_rfl
theorem law_holds:rw0.Holds:=A9 D5
end
end Mine
theorem PySem.Challenge.cw_pb0284_01_holds : PySem.Challenge.rw_pb0284_01.Holds :=
  Mine.law_holds
