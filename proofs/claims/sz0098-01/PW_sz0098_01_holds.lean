import PyProof.Rows.All
import Wide.All
import OpenK.AllK
import Wide.FinOn
import Open.Tops
import KE.KNest
import KE.KRevSl
import Lean
import PySem.Challenge.RW_sz0098_01
set_option genSizeOf false
set_option genInjectivity false
set_option Elab.async false
set_option maxRecDepth 100000
set_option maxHeartbeats 0
set_option linter.unusedVariables false
noncomputable section
namespace fH
theorem bU{I β:Type _}{a:I}{l:List I}{f:I->β}(h:a∈l):f a∈l.map f:=List.mem_map.mpr ⟨a,h,rfl⟩
abbrev ae:=@Nat.le_trans
abbrev bC:=@Nat.eq_of_beq_eq_true
abbrev ba:=@Nat.lt_of_lt_of_le
abbrev bZ:=@Nat.lt_succ_self
abbrev dY:=@Nat.le_of_ble_eq_true
abbrev dI:=@Nat.ne_of_lt
abbrev cV:=@Nat.ne_of_gt
abbrev a9:=@Nat.le_refl
abbrev fh:=@Nat.lt_succ_of_lt
abbrev cB:=@Nat.le_of_eq
abbrev bL:=@Nat.le_add_right
abbrev de:=@Nat.le_succ_of_le
abbrev d5:=@Nat.succ_pos
abbrev dp:=@Nat.zero_le
abbrev dN:=@Nat.lt_trans
abbrev bW:=@Nat.le_succ
abbrev eh:=@Nat.lt_of_le_of_lt
abbrev d4:=@Nat.le_of_lt
abbrev bx:=@Prod.mk.inj
abbrev dK:=@Nat.add_le_add
abbrev cX:=@Int.le_trans
abbrev kS:=@Nat.le_of_succ_le_succ
abbrev kR:=@Nat.not_succ_le_zero
abbrev ft:=@of_decide_eq_true
abbrev jb:=@List.mem_of_find?_eq_some
theorem dc{I:Type _}{a:I}{s t:List I}(h:a∈s++t):a∈s\/a∈t:=List.mem_append.mp h
theorem bG{I:Type _}{a b:I}{l:List I}(h:a∈b::l):a=b\/a∈l:=List.mem_cons.mp h
theorem bV{I:Type _}{p:I->Bool}{l:List I}(h:l.all p=true):∀x∈l,p x=true:=List.all_eq_true.mp h
theorem fS{a b:Bool}(h:(a&&b)=true):a=true/\b=true:=Bool.and_eq_true_iff.mp h
theorem eV{I β:Type _}{f:I->β}{l:List I}{b:β}(h:b∈l.map f):∃a,a∈l/\f a=b:=List.mem_map.mp h
theorem jG{I:Type _}{a:I}{l:List I}(h:(a::l).Nodup):a∉l/\l.Nodup:=List.nodup_cons.mp h
theorem fg{I:Type _}{l k:List I}(h:(l++k).Nodup):l.Nodup/\k.Nodup/\∀a∈l,∀b∈k,a≠b:=List.nodup_append.mp h
theorem jE{m s n:Nat}(h:m∈List.range' s n):s<=m/\m<s+n:=List.mem_range'_1.mp h
theorem fe{a b:Nat}(h:b<=a):¬a<b:=Nat.not_lt.mpr h
theorem eU{I:Type _}{l:List I}(h:l.length=0):l=[]:=List.eq_nil_of_length_eq_zero h
theorem aF{I:Type _}{a:I}{s t:List I}(h:a∈t):a∈s++t:=List.mem_append_right s h
theorem aU{I:Type _}{a:I}{s t:List I}(h:a∈s):a∈s++t:=List.mem_append_left t h
theorem ff{P:Prop}(h:false=true):P:=nomatch h
theorem tf{P:Prop}(h:true=false):P:=nomatch h
theorem nn{I:Type _}{x:I}{P:Prop}(h:none=some x):P:=nomatch h
theorem ns{I:Type _}{x:I}{P:Prop}(h:some x=none):P:=nomatch h
theorem sI{I:Type _}{a b:I}(h:some a=some b):a=b:=Option.some.inj h
theorem sP{I:Type _}{β:Type _}{a c:I}{b d:β}(h:some (a,b)=some (c,d)):a=c/\b=d:=bx<|Option.some.inj h
theorem xA{P Q:Prop}{Z:Prop}(h:P/\Q)(k:P->Q->Z):Z:=h.elim k
theorem xE{A:Sort _}{P:A->Prop}{Z:Prop}(h:∃a,P a)(k:∀a,P a->Z):Z:=h.elim k
theorem ib{P Q R:Prop}{Z:Prop}(h:P/\Q/\R)(k:P->Q->R->Z):Z:=h.elim λ B h=>h.elim<|k B
theorem a8{A:Sort _}{P Q:A->Prop}{Z:Prop}(h:∃a,P a/\Q a)(k:∀a,P a->Q a->Z):Z:=h.elim λ a h=>h.elim<|k a
theorem j_{A B:Sort _}{P:A->B->Prop}{Z:Prop}(h:∃a,∃b,P a b)(k:∀a,∀b,P a b->Z):Z:=h.elim λ a h=>h.elim<|k a
theorem iI{P Q R S:Prop}{Z:Prop}(h:P/\Q/\R/\S)(k:P->Q->R->S->Z):Z:=h.elim λ B h=>h.elim λ J h=>h.elim<|k B J
theorem bc{A:Sort _}{P Q R:A->Prop}{Z:Prop}(h:∃a,P a/\Q a/\R a)(k:∀a,P a->Q a->R a->Z):Z:=h.elim λ a h=>h.elim λ B h=>h.elim<|k a B
theorem b8{A B:Sort _}{P Q:A->B->Prop}{Z:Prop}(h:∃a,∃b,P a b/\Q a b)(k:∀a,∀b,P a b->Q a b->Z):Z:=h.elim λ a h=>h.elim λ b h=>h.elim<|k a b
theorem eG{P Q R S T:Prop}{Z:Prop}(h:P/\Q/\R/\S/\T)(k:P->Q->R->S->T->Z):Z:=h.elim λ B h=>h.elim λ J h=>h.elim λ O h=>h.elim<|k B J O
theorem du{A:Sort _}{P Q R S:A->Prop}{Z:Prop}(h:∃a,P a/\Q a/\R a/\S a)(k:∀a,P a->Q a->R a->S a->Z):Z:=h.elim λ a h=>h.elim λ B h=>h.elim λ J h=>h.elim<|k a B J
theorem uI{A B:Sort _}{P:A->Prop}{Q R:A->B->Prop}{Z:Prop}(h:∃a,P a/\∃b,Q a b/\R a b)(k:∀a,P a->∀b,Q a b->R a b->Z):Z:=h.elim λ a h=>h.elim λ J h=>h.elim λ b h=>h.elim<|k a J b
theorem a5{A B:Sort _}{P Q R:A->B->Prop}{Z:Prop}(h:∃a,∃b,P a b/\Q a b/\R a b)(k:∀a,∀b,P a b->Q a b->R a b->Z):Z:=h.elim λ a h=>h.elim λ b h=>h.elim λ J h=>h.elim<|k a b J
theorem ji{A B C:Sort _}{P Q:A->B->C->Prop}{Z:Prop}(h:∃a,∃b,∃c,P a b c/\Q a b c)(k:∀a,∀b,∀c,P a b c->Q a b c->Z):Z:=h.elim λ a h=>h.elim λ b h=>h.elim λ c h=>h.elim<|k a b c
theorem c9{A B:Sort _}{P:A->Prop}{Q R S:A->B->Prop}{Z:Prop}(h:∃a,P a/\∃b,Q a b/\R a b/\S a b)(k:∀a,P a->∀b,Q a b->R a b->S a b->Z):Z:=h.elim λ a h=>h.elim λ J h=>h.elim λ b h=>h.elim λ O h=>h.elim<|k a J b O
theorem cI{A B:Sort _}{P Q R S:A->B->Prop}{Z:Prop}(h:∃a,∃b,P a b/\Q a b/\R a b/\S a b)(k:∀a,∀b,P a b->Q a b->R a b->S a b->Z):Z:=h.elim λ a h=>h.elim λ b h=>h.elim λ J h=>h.elim λ O h=>h.elim<|k a b J O
theorem gT{A B C:Sort _}{P Q R:A->B->C->Prop}{Z:Prop}(h:∃a,∃b,∃c,P a b c/\Q a b c/\R a b c)(k:∀a,∀b,∀c,P a b c->Q a b c->R a b c->Z):Z:=h.elim λ a h=>h.elim λ b h=>h.elim λ c h=>h.elim λ J h=>h.elim<|k a b c J
theorem la{A B:Sort _}{P Q R S T:A->B->Prop}{Z:Prop}(h:∃a,∃b,P a b/\Q a b/\R a b/\S a b/\T a b)(k:∀a,∀b,P a b->Q a b->R a b->S a b->T a b->Z):Z:=h.elim λ a h=>h.elim λ b h=>h.elim λ J h=>h.elim λ O h=>h.elim λ x2 h=>h.elim<|k a b J O x2
theorem cQ{A B C:Sort _}{P Q R S:A->B->C->Prop}{Z:Prop}(h:∃a,∃b,∃c,P a b c/\Q a b c/\R a b c/\S a b c)(k:∀a,∀b,∀c,P a b c->Q a b c->R a b c->S a b c->Z):Z:=h.elim λ a h=>h.elim λ b h=>h.elim λ c h=>h.elim λ J h=>h.elim λ O h=>h.elim<|k a b c J O
theorem fU{A B C D:Sort _}{P Q R:A->B->C->D->Prop}{Z:Prop}(h:∃a,∃b,∃c,∃d,P a b c d/\Q a b c d/\R a b c d)(k:∀a,∀b,∀c,∀d,P a b c d->Q a b c d->R a b c d->Z):Z:=h.elim λ a h=>h.elim λ b h=>h.elim λ c h=>h.elim λ d h=>h.elim λ J h=>h.elim<|k a b c d J
theorem gd{A B:Sort _}{P Q R S T U:A->B->Prop}{Z:Prop}(h:∃a,∃b,P a b/\Q a b/\R a b/\S a b/\T a b/\U a b)(k:∀a,∀b,P a b->Q a b->R a b->S a b->T a b->U a b->Z):Z:=h.elim λ a h=>h.elim λ b h=>h.elim λ J h=>h.elim λ O h=>h.elim λ x2 h=>h.elim λ x3 h=>h.elim<|k a b J O x2 x3
theorem bA{A B C:Sort _}{P Q R S T:A->B->C->Prop}{Z:Prop}(h:∃a,∃b,∃c,P a b c/\Q a b c/\R a b c/\S a b c/\T a b c)(k:∀a,∀b,∀c,P a b c->Q a b c->R a b c->S a b c->T a b c->Z):Z:=h.elim λ a h=>h.elim λ b h=>h.elim λ c h=>h.elim λ J h=>h.elim λ O h=>h.elim λ x2 h=>h.elim<|k a b c J O x2
theorem fZ{A B C:Sort _}{P Q R S T U:A->B->C->Prop}{Z:Prop}(h:∃a,∃b,∃c,P a b c/\Q a b c/\R a b c/\S a b c/\T a b c/\U a b c)(k:∀a,∀b,∀c,P a b c->Q a b c->R a b c->S a b c->T a b c->U a b c->Z):Z:=h.elim λ a h=>h.elim λ b h=>h.elim λ c h=>h.elim λ J h=>h.elim λ O h=>h.elim λ x2 h=>h.elim λ x3 h=>h.elim<|k a b c J O x2 x3
theorem cZ{A B C D:Sort _}{P Q R S T:A->B->C->D->Prop}{Z:Prop}(h:∃a,∃b,∃c,∃d,P a b c d/\Q a b c d/\R a b c d/\S a b c d/\T a b c d)(k:∀a,∀b,∀c,∀d,P a b c d->Q a b c d->R a b c d->S a b c d->T a b c d->Z):Z:=h.elim λ a h=>h.elim λ b h=>h.elim λ c h=>h.elim λ d h=>h.elim λ J h=>h.elim λ O h=>h.elim λ x2 h=>h.elim<|k a b c d J O x2
theorem cC{A:Sort _}{B J O:A->Prop}(a:A)(x0:B a)(x1:J a)(x2:O a):∃a,B a/\J a/\O a:=⟨a,x0,x1,x2⟩
theorem iC{A:Sort _}{B J O P3:A->Prop}(a:A)(x0:B a)(x1:J a)(x2:O a)(x3:P3 a):∃a,B a/\J a/\O a/\P3 a:=⟨a,x0,x1,x2,x3⟩
theorem fc{A B:Sort _}{J O P2:A->B->Prop}(a:A)(b:B)(x0:J a b)(x1:O a b)(x2:P2 a b):∃a,∃b,J a b/\O a b/\P2 a b:=⟨a,b,x0,x1,x2⟩
theorem gZ{A:Sort _}{B J O P3 P4:A->Prop}(a:A)(x0:B a)(x1:J a)(x2:O a)(x3:P3 a)(x4:P4 a):∃a,B a/\J a/\O a/\P3 a/\P4 a:=⟨a,x0,x1,x2,x3,x4⟩
theorem iU{A B:Sort _}{J:A->Prop}{O P2 P3:A->B->Prop}(a:A)(x0:J a)(b:B)(x1:O a b)(x2:P2 a b)(x3:P3 a b):∃a,J a/\∃b,O a b/\P2 a b/\P3 a b:=⟨a,x0,b,x1,x2,x3⟩
theorem fN{A B:Sort _}{J O P2 P3:A->B->Prop}(a:A)(b:B)(x0:J a b)(x1:O a b)(x2:P2 a b)(x3:P3 a b):∃a,∃b,J a b/\O a b/\P2 a b/\P3 a b:=⟨a,b,x0,x1,x2,x3⟩
theorem tT{A B C:Sort _}{J O P2:A->B->C->Prop}(a:A)(b:B)(c:C)(x0:J a b c)(x1:O a b c)(x2:P2 a b c):∃a,∃b,∃c,J a b c/\O a b c/\P2 a b c:=⟨a,b,c,x0,x1,x2⟩
theorem jQ{A B:Sort _}{J O P2 P3 P4:A->B->Prop}(a:A)(b:B)(x0:J a b)(x1:O a b)(x2:P2 a b)(x3:P3 a b)(x4:P4 a b):∃a,∃b,J a b/\O a b/\P2 a b/\P3 a b/\P4 a b:=⟨a,b,x0,x1,x2,x3,x4⟩
theorem oD{A B C:Sort _}{J O P2 P3:A->B->C->Prop}(a:A)(b:B)(c:C)(x0:J a b c)(x1:O a b c)(x2:P2 a b c)(x3:P3 a b c):∃a,∃b,∃c,J a b c/\O a b c/\P2 a b c/\P3 a b c:=⟨a,b,c,x0,x1,x2,x3⟩
theorem iB{A B:Sort _}{J O P2 P3 P4 P5:A->B->Prop}(a:A)(b:B)(x0:J a b)(x1:O a b)(x2:P2 a b)(x3:P3 a b)(x4:P4 a b)(x5:P5 a b):∃a,∃b,J a b/\O a b/\P2 a b/\P3 a b/\P4 a b/\P5 a b:=⟨a,b,x0,x1,x2,x3,x4,x5⟩
theorem iA{A B C:Sort _}{J O P2 P3 P4:A->B->C->Prop}(a:A)(b:B)(c:C)(x0:J a b c)(x1:O a b c)(x2:P2 a b c)(x3:P3 a b c)(x4:P4 a b c):∃a,∃b,∃c,J a b c/\O a b c/\P2 a b c/\P3 a b c/\P4 a b c:=⟨a,b,c,x0,x1,x2,x3,x4⟩
theorem m0{I:Type _}{B:I}{l:List I}:B∈B::l:=.head _
theorem m1{I:Type _}{J B:I}{l:List I}:B∈J::B::l:=.tail _<|.head _
theorem m2{I:Type _}{J O B:I}{l:List I}:B∈J::O::B::l:=.tail _<|.tail _<|.head _
theorem m3{I:Type _}{J O x2 B:I}{l:List I}:B∈J::O::x2::B::l:=.tail _<|.tail _<|.tail _<|.head _
theorem m4{I:Type _}{J O x2 x3 B:I}{l:List I}:B∈J::O::x2::x3::B::l:=.tail _<|.tail _<|.tail _<|.tail _<|.head _
theorem m5{I:Type _}{J O x2 x3 x4 B:I}{l:List I}:B∈J::O::x2::x3::x4::B::l:=.tail _<|.tail _<|.tail _<|.tail _<|.tail _<|.head _
theorem m6{I:Type _}{J O x2 x3 x4 x5 B:I}{l:List I}:B∈J::O::x2::x3::x4::x5::B::l:=.tail _<|.tail _<|.tail _<|.tail _<|.tail _<|.tail _<|.head _
theorem m7{I:Type _}{J O x2 x3 x4 x5 x6 B:I}{l:List I}:B∈J::O::x2::x3::x4::x5::x6::B::l:=.tail _<|.tail _<|.tail _<|.tail _<|.tail _<|.tail _<|.tail _<|.head _
theorem m8{I:Type _}{J O x2 x3 x4 x5 x6 x7 B:I}{l:List I}:B∈J::O::x2::x3::x4::x5::x6::x7::B::l:=.tail _<|.tail _<|.tail _<|.tail _<|.tail _<|.tail _<|.tail _<|.tail _<|.head _
theorem m9{I:Type _}{J O x2 x3 x4 x5 x6 x7 x8 B:I}{l:List I}:B∈J::O::x2::x3::x4::x5::x6::x7::x8::B::l:=.tail _<|.tail _<|.tail _<|.tail _<|.tail _<|.tail _<|.tail _<|.tail _<|.tail _<|.head _
theorem V_{I:Type _}{J O x2 x3 x4 x5 x6 x7 x8 x9 B:I}{l:List I}:B∈J::O::x2::x3::x4::x5::x6::x7::x8::x9::B::l:=.tail _<|.tail _<|.tail _<|.tail _<|.tail _<|.tail _<|.tail _<|.tail _<|.tail _<|.tail _<|.head _
end fH
namespace fH.V
variable{I β:Type}{j:Nat}
inductive TR(I:Type)where
 |nil
 |node (v:Option I) (l r:TR I)
noncomputable def bd{I β:Type}(x:Option I)(f:I->Option β):Option β:=Option.rec (motive:=λ _=>Option β) none f x
noncomputable def cj{β:Type}(b:Bool)(x:Option β):Option β:=Bool.rec (motive:=λ _=>Option β) none x b
section
variable{r:β}{x:Option β}{P:Prop}
theorem kW{b:Bool}(e:cj b x=some r)(k:b=true->x=some r->P):P:=Bool.rec (motive:=λ b=>cj b x=some r->(b=true->x=some r->P)->P) (λ e _=>nn e) (λ e k=>k rfl e) b e k
theorem aX{x:Option I}{f:I->Option β}(e:bd x f=some r)(k:∀a,x=some a->f a=some r->P):P:=Option.rec (motive:=λ x=>bd x f=some r->(∀a,x=some a->f a=some r->P)->P) (λ e _=>nn e) (λ a e k=>k a rfl e) x e k
end
inductive Ix:Nat->Prop where
 |z:Ix 0
 |l (k:Nat):Ix (2*k+1)
 |r (k:Nat):Ix<|2*k+2
theorem ix:∀i,Ix i
 |0=>.z|i+1=>(ix i).rec (.l 0) (λ k=>.r k) λ k=>.l<|k+1
theorem NF(F ρ:Nat->β)(v:β)(k:Nat):Bool.rec (motive:=λ _=>β) (Bool.rec (motive:=λ _=>β) (ρ<|Nat.sub (Nat.div (2*k+1) 2) 1) (F<|Nat.div (2*k+1) 2)<|Nat.beq (Nat.mod (2*k+1) 2) 1) v (Nat.beq (2*k+1) 0)=F k:=by
 rw[show Nat.mod (2*k+1) 2=1 from Nat.mul_add_mod 2 k 1,show Nat.div (2*k+1) 2=k from Nat.mul_add_div (by decide) k 1];rfl
theorem ND(F ρ:Nat->β)(v:β)(k:Nat):Bool.rec (motive:=λ _=>β) (Bool.rec (motive:=λ _=>β) (ρ<|Nat.sub (Nat.div (2*k+2) 2) 1) (F<|Nat.div (2*k+2) 2)<|Nat.beq (Nat.mod (2*k+2) 2) 1) v (Nat.beq (2*k+2) 0)=ρ k:=by
 rw[show Nat.mod (2*k+2) 2=0 from Nat.mul_add_mod 2 k 2,show Nat.div (2*k+2) 2=k+1 from Nat.mul_add_div (by decide) k 2];rfl
namespace TR
section
noncomputable def get(t:TR I):Nat->Option I:=TR.rec (motive:=λ _=>Nat->Option I) (λ _=>none) (λ v _ _ J B i=>
 Bool.rec (motive:=λ _=>Option I) (Bool.rec (motive:=λ _=>Option I) (B<|Nat.sub (Nat.div i 2) 1) (J<|Nat.div i 2)<|Nat.beq (Nat.mod i 2) 1) v (Nat.beq i 0)) t
noncomputable def set(x:I)(n:Nat):TR I->Nat->TR I:=Nat.rec (motive:=λ _=>TR I->Nat->TR I) (λ t _=>t) (λ _ ih t i=>
 TR.rec (motive:=λ _=>TR I)
  (Bool.rec (motive:=λ _=>TR I) (Bool.rec (motive:=λ _=>TR I) (.node none .nil<|ih .nil<|Nat.sub (Nat.div i 2) 1) (.node none (ih .nil<|Nat.div i 2) .nil)<|Nat.beq (Nat.mod i 2) 1) (.node (some x) .nil .nil)<|Nat.beq i 0)
  (λ v l r _ _=>Bool.rec (motive:=λ _=>TR I) (Bool.rec (motive:=λ _=>TR I) (.node v l<|ih r<|Nat.sub (Nat.div i 2) 1) (.node v (ih l<|Nat.div i 2) r)<|Nat.beq (Nat.mod i 2) 1) (.node (some x) l r)<|Nat.beq i 0) t) n
noncomputable def dL(x:I)(t:TR I)(i:Nat):TR I:=set x (Nat.succ i) t i
noncomputable def OM(l:List<|Nat×I):TR I:=List.rec (motive:=λ _=>TR I) .nil (λ p _ ih=>dL p.2 ih p.1) l
noncomputable def ofN(l:List I):Nat->TR I:=List.rec (motive:=λ _=>Nat->TR I) (λ _=>.nil) (λ x _ ih i=>dL x (ih<|Nat.succ i) i) l
noncomputable def del(t:TR I):Nat->TR I:=TR.rec (motive:=λ _=>Nat->TR I) (λ _=>.nil) (λ v l r J B i=>
 Bool.rec (motive:=λ _=>TR I) (Bool.rec (motive:=λ _=>TR I) (.node v l<|B<|Nat.sub (Nat.div i 2) 1) (.node v (J<|Nat.div i 2) r)<|Nat.beq (Nat.mod i 2) 1) (.node none l r) (Nat.beq i 0)) t
noncomputable def val(t:TR I):Option I:=TR.rec (motive:=λ _=>Option I) none (λ v _ _ _ _=>v) t
noncomputable def Wb(t:TR I):TR I:=TR.rec (motive:=λ _=>TR I) .nil (λ _ l _ _ _=>l) t
noncomputable def VI(t:TR I):TR I:=TR.rec (motive:=λ _=>TR I) .nil (λ _ _ r _ _=>r) t
theorem yi(t:TR I):t.get 0=t.val:=t.rec rfl λ _ _ _ _ _=>rfl
theorem j7(t:TR I)(k:Nat):t.get (2*k+1)=t.Wb.get k:=t.rec rfl λ v l r _ _=>NF l.get r.get v k
theorem j6(t:TR I)(k:Nat):t.get (2*k+2)=t.VI.get k:=t.rec rfl λ v l r _ _=>ND l.get r.get v k
variable(x:I)(n:Nat)
theorem KO(t:TR I):set x (n+1) t 0=node (some x) t.Wb t.VI:=t.rec rfl λ _ _ _ _ _=>rfl
theorem GF(t:TR I)(k:Nat):set x (n+1) t (2*k+1)=node t.val (set x n t.Wb k) t.VI:=t.rec (NF (λ i=>node none (set x n nil i) nil) (λ i=>node none nil<|set x n nil i) (node (some x) nil nil) k) λ v l r _ _=>NF (λ i=>node v (set x n l i) r) (λ i=>node v l<|set x n r i) (node (some x) l r) k
theorem GD(t:TR I)(k:Nat):set x (n+1) t (2*k+2)=node t.val t.Wb (set x n t.VI k):=t.rec (ND (λ i=>node none (set x n nil i) nil) (λ i=>node none nil<|set x n nil i) (node (some x) nil nil) k) λ v l r _ _=>ND (λ i=>node v (set x n l i) r) (λ i=>node v l<|set x n r i) (node (some x) l r) k
theorem wT{s t:TR I}{o o':Option I}(e:s=t)(h:t.get j=o)(k:o=o'):s.get j=o':=e▸h.trans k
theorem xt:∀(n:Nat)(t:TR I)(i:Nat),i<n->(set x n t i).get i=some x
 |0,_,_,h=>absurd h (Nat.not_lt_zero _)|n+1,t,i,h=>(ix i).rec (motive:=λ i _=>i<n+1->(set x (n+1) t i).get i=some x) (λ _=>wT (KO x n t) (yi _) rfl)
  (λ k h=>wT (GF x n t k) (j7 _ k)<|xt n _ k<|eh (Nat.le_mul_of_pos_left k (by decide))<|Nat.lt_of_succ_lt_succ h)
  (λ k h=>wT (GD x n t k) (j6 _ k)<|xt n _ k<|eh (de<|Nat.le_mul_of_pos_left k (by decide))<|Nat.lt_of_succ_lt_succ h) h
theorem xr:∀(n:Nat)(t:TR I)(i j:Nat),j≠i->(set x n t i).get j=t.get j
 |0,_,_,_,_=>rfl|n+1,t,i,j,h=>(ix i).rec (motive:=λ i _=>j≠i->(set x (n+1) t i).get j=t.get j)
  ((ix j).rec (motive:=λ j _=>j≠0->(set x (n+1) t 0).get j=t.get j) (λ h=>absurd rfl h) (λ m _=>wT (KO x n t) (j7 _ m) (j7 t m).symm) λ m _=>wT (KO x n t) (j6 _ m) (j6 t m).symm)
  (λ k=>(ix j).rec (motive:=λ j _=>j≠2*k+1->(set x (n+1) t<|2*k+1).get j=t.get j) (λ _=>wT (GF x n t k) (yi _) (yi t).symm) (λ m h=>wT (GF x n t k) (j7 _ m)<|(xr n _ k m λ e=>h<|e▸rfl).trans (j7 t m).symm) λ m _=>wT (GF x n t k) (j6 _ m) (j6 t m).symm)
  (λ k=>(ix j).rec (motive:=λ j _=>j≠2*k+2->(set x (n+1) t<|2*k+2).get j=t.get j) (λ _=>wT (GD x n t k) (yi _) (yi t).symm) (λ m _=>wT (GD x n t k) (j7 _ m) (j7 t m).symm) λ m h=>wT (GD x n t k) (j6 _ m)<|(xr n _ k m λ e=>h<|e▸rfl).trans (j6 t m).symm) h
theorem si(t:TR I)(i:Nat):(dL x t i).get i=some x:=xt x _ t i<|bZ i
theorem kr{x:I}{t:TR I}{i:Nat}(h:j≠i):(dL x t i).get j=t.get j:=xr x _ t i j h
theorem bu(t:TR I)(i j:Nat):(dL x t i).get j=if j=i then some x else t.get j:=
 dite (j=i) (λ e=>e▸(si x t j).trans (if_pos rfl).symm) λ e=>(kr e).trans (if_neg e).symm
theorem yr:∀(t:TR I)(i:Nat),(del t i).get i=none
 |.nil,_=>rfl|.node v l r,i=>(ix i).rec (motive:=λ i _=>(del (node v l r) i).get i=none) rfl
  (λ k=>wT (NF (λ i=>node v (del l i) r) (λ i=>node v l<|del r i) (node none l r) k) (j7 _ k)<|yr l k)
  λ k=>wT (ND (λ i=>node v (del l i) r) (λ i=>node v l<|del r i) (node none l r) k) (j6 _ k)<|yr r k
theorem dC:∀(t:TR I)(i j:Nat),j≠i->(del t i).get j=t.get j
 |.nil,_,_,_=>rfl|.node v l r,i,j,h=>(ix i).rec (motive:=λ i _=>j≠i->(del (node v l r) i).get j=(node v l r).get j)
  ((ix j).rec (motive:=λ j _=>j≠0->(del (node v l r) 0).get j=(node v l r).get j) (λ h=>absurd rfl h) (λ m _=>(j7 (node none l r) m).trans (j7 (node v l r) m).symm) λ m _=>(j6 (node none l r) m).trans (j6 (node v l r) m).symm)
  (λ k=>(ix j).rec (motive:=λ j _=>j≠2*k+1->(del (node v l r)<|2*k+1).get j=(node v l r).get j) (λ _=>wT (NF (λ i=>node v (del l i) r) (λ i=>node v l<|del r i) (node none l r) k) (yi _) rfl) (λ m h=>wT (NF (λ i=>node v (del l i) r) (λ i=>node v l<|del r i) (node none l r) k) (j7 _ m)<|(dC l k m λ e=>h<|e▸rfl).trans (j7 (node v l r) m).symm) λ m _=>wT (NF (λ i=>node v (del l i) r) (λ i=>node v l<|del r i) (node none l r) k) (j6 _ m) (j6 (node v l r) m).symm)
  (λ k=>(ix j).rec (motive:=λ j _=>j≠2*k+2->(del (node v l r)<|2*k+2).get j=(node v l r).get j) (λ _=>wT (ND (λ i=>node v (del l i) r) (λ i=>node v l<|del r i) (node none l r) k) (yi _) rfl) (λ m _=>wT (ND (λ i=>node v (del l i) r) (λ i=>node v l<|del r i) (node none l r) k) (j7 _ m) (j7 (node v l r) m).symm) λ m h=>wT (ND (λ i=>node v (del l i) r) (λ i=>node v l<|del r i) (node none l r) k) (j6 _ m)<|(dC r k m λ e=>h<|e▸rfl).trans (j6 (node v l r) m).symm) h
theorem fW(t:TR I)(i j:Nat):(del t i).get j=if j=i then none else t.get j:=
 dite (j=i) (λ e=>e▸(yr t j).trans (if_pos rfl).symm) λ e=>(dC t i j e).trans (if_neg e).symm
noncomputable def onO(p:I->Bool)(v:Option I):Bool:=Option.rec (motive:=λ _=>Bool) true p v
noncomputable def all(p:I->Bool)(t:TR I):Bool:=TR.rec (motive:=λ _=>Bool) true (λ v _ _ a b=>onO p v&&(a&&b)) t
theorem ug{p:I->Bool}{x:I}:∀{t:TR I}{i:Nat},t.all p=true->t.get i=some x->p x=true
 |.nil,_,_,e=>nn e|.node v l r,i,h,e=>(fS h).elim λ h1 h=>(fS h).elim λ h2 B=>(ix i).rec (motive:=λ i _=>(node v l r).get i=some x->p x=true)
  (λ e=>by cases(show v=some x from e);exact h1) (λ k e=>ug h2<|(j7 (node v l r) k).symm.trans e) (λ k e=>ug B<|(j6 (node v l r) k).symm.trans e) e
end
end TR
end fH.V
namespace fH
open PySem PySem.W
noncomputable abbrev ah:=@wpAny_bind
noncomputable abbrev ax:=@wpAny_pure
noncomputable abbrev cN:=@wpAny_mono
noncomputable abbrev dJ:=@Heap.lt_size
section
open V (TR bd cj aX kW)
structure SP where
 tree:TR Obj
 n:Nat
 gens:Array GenState
 drawn:Drawn
 toks:Nat
 os:OsState
noncomputable def SP.at(s:SP)(h:Heap):Shared:=⟨h,s.gens,s.drawn,s.toks,s.os⟩
noncomputable def Qk(s:SP)(r:Step):Option (SP×Thread):=match r with|.go s' B=>some (⟨s.tree,s.n,s'.gens,s'.drawn,s'.toks,s'.os⟩,B)|.halt _ _=>none
def stepK(B:Shared->Thread->Step)(s:SP)(t:Thread):Option (SP×Thread):=match t.cur with|.load a _ k=>bd (s.tree.get a) λ o=>some (s,⟨k o,t.code,t.pos,t.stack⟩)|.update a _ f k=>bd (s.tree.get a) λ o=>cj (!(f o).isFreed) (some (⟨TR.dL (f o) s.tree a,s.n,s.gens,s.drawn,s.toks,s.os⟩,⟨k (),t.code,t.pos,t.stack⟩))|.alloc o k=>cj (!o.isFreed) (some (⟨TR.dL o s.tree s.n,s.n+1,s.gens,s.drawn,s.toks,s.os⟩,⟨k s.n,t.code,t.pos,t.stack⟩))|.loadIfAlive _ _=>none|_=>Qk s<|B (s.at {}) t
structure qZ(T:TR Obj)(n:Nat)(h:Heap):Prop where
 size:h.objs.size=n
 get:∀a o,T.get a=some o->h.get? a=some o
structure Kept(T T':TR Obj)(n:Nat)(h h':Heap):Prop where
 keep:∀a o,T.get a=none->h.get? a=some o->h'.get? a=some o
 none:∀a,a<n->T.get a=none->T'.get a=none
theorem Kept.trans{T T' B:TR Obj}{n n':Nat}{h h' Zf:Heap}(x:Kept T T' n h h')(y:Kept T' B n' h' Zf)(hs:h.objs.size=n)(J:n<=n'):Kept T B n h Zf:=
 ⟨λ a o e q=>y.keep a o (x.none a (hs▸dJ q) e)<|x.keep a o e q,λ a l e=>y.none a (ba l J)<|x.none a l e⟩
section
variable{den:Code->Sem Fin}{p:Program}{w:World}{s s':SP}{t t':Thread}{h:Heap}
def Tk(den:Code->Sem Fin)(p:Program)(w:World)(h:Heap)(s:SP)(t:Thread)(s':SP)(t':Thread):Prop:=
 ∃h',step den p w (s.at h) t=.go (s'.at h') t'/\qZ s'.tree s'.n h'/\Kept s.tree s'.tree s.n h h'/\s.n<=s'.n
noncomputable def XS(c:Sem Fin):Bool:=Nat.blt c.ctorIdx 6||Nat.blt 9 c.ctorIdx
theorem oq{c d:Sem Fin}(ho:XS c=true)(hd:XS d=false):c≠d:=λ e=>ff<|hd.symm.trans<|e▸ho
theorem rk{T:TR Obj}{a b:Nat}{o:Obj}(g:T.get a=some o)(e:T.get b=none):b≠a:=λ z=>ns<|g.symm.trans<|z▸e
theorem Ei(D:qZ s.tree s.n h)(ho:XS t.cur=true)(e:Qk s (step den p w (s.at {}) t)=some (s',t')):Tk den p w h s t s' t':=by
 cases q:step den p w (s.at {}) t with|halt o x=>rw[q]at e;exact nn e|go J B=>rw[q]at e;exact(sP e).1▸(sP e).2▸⟨h,PySem.W.step_heap (λ _ _ _=>oq ho rfl) (λ _ _ _ _=>oq ho rfl) (λ _ _=>oq ho rfl) (λ _ _=>oq ho rfl) q,D,⟨λ _ _ _ e=>e,λ _ _ e=>e⟩,a9 _⟩
theorem Bg{a:Addr}{q:Option Value}{k:Obj->Sem Fin}{c:Code}{ps:Pos}{fs:List Frame}{o:Obj}(D:qZ s.tree s.n h)(g:s.tree.get a=some o):Tk den p w h s ⟨.load a q k,c,ps,fs⟩ s ⟨k o,c,ps,fs⟩:=
 ⟨h,by show(match h.get? a with|some o=>_|none=>_)=_;rw[D.get a o g];rfl,D,⟨λ _ _ _ e=>e,λ _ _ e=>e⟩,a9 _⟩
theorem Eh{a:Addr}{q:Option Value}{f:Obj->Obj}{k:Unit->Sem Fin}{c:Code}{ps:Pos}{fs:List Frame}{o:Obj}(D:qZ s.tree s.n h)(g:s.tree.get a=some o)(fr:(f o).isFreed=false):Tk den p w h s ⟨.update a q f k,c,ps,fs⟩ ⟨TR.dL (f o) s.tree a,s.n,s.gens,s.drawn,s.toks,s.os⟩ ⟨k (),c,ps,fs⟩:=
 ⟨h.update a f,by show(if(h.get? a).isSome=true then _ else _)=_;rw[D.get a o g];rfl,⟨(Heap.SameBut.update .. :Heap.SameBut a h<|h.update a f).1.trans D.size,λ b x hb=>
  dite (b=a) (λ e=>e▸(Heap.get?_update_self f (D.get a o g) fr).trans ((TR.si (f o) s.tree a).symm.trans<|e▸hb)) λ e=>(Heap.get?_update_ne _ _ _ _ e).trans<|D.get b x<|(TR.kr e).symm.trans hb⟩,
  ⟨λ b x hb hx=>(Heap.get?_update_ne _ _ _ _<|rk g hb).trans hx,λ b _ hb=>(TR.kr<|rk g hb).trans hb⟩,a9 _⟩
theorem Ej{o:Obj}{k:Addr->Sem Fin}{c:Code}{ps:Pos}{fs:List Frame}(D:qZ s.tree s.n h)(fr:o.isFreed=false):Tk den p w h s ⟨.alloc o k,c,ps,fs⟩ ⟨TR.dL o s.tree s.n,s.n+1,s.gens,s.drawn,s.toks,s.os⟩ ⟨k s.n,c,ps,fs⟩:=
 ⟨h.push o,by show Step.go _ ⟨k h.objs.size,_,_,_⟩=_;rw[D.size];rfl,⟨(Heap.size_push ..).trans<|congrArg (· +1) D.size,λ b x hb=>
  dite (b=s.n) (λ e=>e▸D.size▸(Heap.get?_push_size _ fr).trans ((TR.si o s.tree s.n).symm.trans<|e▸hb)) λ e=>Heap.get?_push_of_some o<|D.get b x<|(TR.kr e).symm.trans hb⟩,
  ⟨λ b x _ hx=>Heap.get?_push_of_some o hx,λ b l hb=>(TR.kr<|dI l).trans hb⟩,bW _⟩
theorem X6{b:Bool}(h:(!b)=true):b=false:=b.rec (motive:=λ b=>(!b)=true->b=false) (λ _=>rfl) (λ h=>ff h) h
theorem xp(D:qZ s.tree s.n h)(e:stepK (step den p w) s t=some (s',t')):Tk den p w h s t s' t':=by
 obtain⟨cur,c,ps,fs⟩:=t;cases cur with|load a q k=>exact aX e λ o g e=>(sP e).1▸(sP e).2▸Bg D g|update a q f k=>exact aX e λ o g e=>kW e λ fr e=>(sP e).1▸(sP e).2▸Eh D g (X6 fr)|alloc o k=>exact kW e λ fr e=>(sP e).1▸(sP e).2▸Ej D (X6 fr)|loadIfAlive a k=>exact nn e|_=>exact Ei D rfl e
noncomputable def CE(B:Shared->Thread->Step)(ok:Thread->Bool)(b:Nat):Nat->SP->Thread->Option (Flow×SP×Code×Pos)
 |0,_,_=>none|n+1,s,t=>match endAt b t with|some f=>some (f,s,t.code,t.pos)|none=>cj (ok t)<|bd (stepK B s t) λ r=>CE B ok b n r.1 r.2
theorem q8{tb:String->Option Builtin}{QA:Nat}{ann:Option Value}{b:Nat}{f:Flow}{c:Code}{q:Pos}:∀{n:Nat}{s s':SP}{t:Thread}{h:Heap},qZ s.tree s.n h->
  CE (step (denote tb) p w) (stepOk QA ann) b n s t=some (f,s',c,q)->
  ∃h',segRun tb p w QA ann b n (s.at h) t=some (f,s'.at h',c,q)/\qZ s'.tree s'.n h'/\Kept s.tree s'.tree s.n h h'/\s.n<=s'.n
 |0,_,_,_,_,_,e=>nn e|n+1,s,s',t,h,D,e=>by
  unfold CE at e;unfold segRun;cases he:endAt b t with
  |some x=>rw[he]at e;cases e;exact(iC h rfl D ⟨λ _ _ _ e=>e,λ _ _ e=>e⟩<|a9 _)
  |none=>
   rw[he]at e;refine kW e λ hk e=>aX e λ r hs e=>?_;refine du (xp D hs) λ gy qV h0 J l₂=>?_;refine du (q8 h0 e) λ iV B O IF Yn=>?_;refine(iC iV ?_ O (J.trans IF D.size l₂)<|ae l₂ Yn);dsimp only;rw[hk];dsimp only;rw[qV];exact B
end
end
section
open V (TR bd cj aX kW)
noncomputable abbrev pw:Program:=PySem.Challenge.pw_sz0098_01
def tS(i:Nat):Stmt:=(pw.main.body[i]?).getD default
def mS(i j:Nat):Stmt:=match tS i with|.ClassDef _ _ _ b _ _ _ _ _ _ _=>(b[j]?).getD default|_=>default
noncomputable def ON(s:Stmt)(qual:Str)(g:Addr)(dV doc pm code:Value):Obj:=match s with|.FunctionDef name args body _ _ _ scope _ _ _=>⟨.type "function",none,.func {name,qualname:=qual,params:=args,body:=.stmts body,scope,globals:=g,closure:=[],defaults:=dV,kwdefaults:=.none,doc,pyModule:=pm,annotations:=none,code,closureTuple:=.none,builtins:=0}, #[]⟩|_=>default
noncomputable def cD(name:Str)(bases mro:List Value)(ns:Addr)(qual:Str)(subs:List Value):ClassData:=
 {name,bases,mro,ns,qualname:=qual,hasDict:=true,slotNames:=[],subclasses:=subs,abstract:=false,collection:=none,hasDel:=false}
noncomputable def nmS(s:Stmt):Str:=match s with|.FunctionDef name _ _ _ _ _ _ _ _ _=>name|_=>default
def fT(a i:Nat)(m:Value):Nat×Obj:=(a,ON (tS i) (nmS<|tS i) 3 .none .none m<|.ref<|a-1)
def fM(a i j:Nat)(q:Str)(m:Value):Nat×Obj:=(a,ON (mS i j) q 3 .none .none m<|.ref<|a-1)
def tO(a:Nat)(n:Str)(b r:List Value)(d:Nat)(s s':Option Value)(t B:Nat)(w:String):Nat×Obj:=(a,⟨.type "type",none,.cls<|cD n b r d n [],[s,s',some<|.str n t,some<|.str n B,some<|.builtin w,some<|.bool true].toArray⟩)
noncomputable def eN(P:Params)(s:Str)(tok:Nat)(v:Value):DictEntry:=⟨reduceHash<|P.strHash s.cps,.str s tok,v⟩
noncomputable def e3(s:Str)(n:Nat)(v:Value):Str×Nat×Value:=(s,n,v)
noncomputable def r3(s:Str)(n a:Nat):Str×Nat×Value:=(s,n,.ref a)
noncomputable def eA(n:Nat)(v:Value):Str×Nat×Value:=("__module__",n,v)
noncomputable def eB(n k m:Nat):Str×Nat×Value:=("__firstlineno__",n,.int k m)
noncomputable def eC(n a:Nat):Str×Nat×Value:=("__static_attributes__",n,.ref a)
noncomputable def eD(n:Nat):Str×Nat×Value:=("__doc__",n,.none)
noncomputable def eE(n a:Nat):Str×Nat×Value:=("__dict__",n,.ref a)
noncomputable def eF(n a:Nat):Str×Nat×Value:=("__weakref__",n,.ref a)
def eL(P:Params)(l:List<|Str×Nat×Value):List DictEntry:=l.map λ e=>eN P e.1 e.2.1 e.2.2
def dV(P:Params)(l:List<|Str×Nat×Value)(n:Nat):Obj:=⟨.type "dict",none,.dict (eL P l).toArray n,[].toArray⟩
def dO(P:Params)(a:Nat)(l:List<|Str×Nat×Value)(n:Nat):Nat×Obj:=(a,dV P l n)
noncomputable def mV0:Value:=.str "__main__" 164
noncomputable def mV1:Value:=.str "perlcore.numbers" 194
noncomputable def nV:Value:=.str "perlcore.values" 206
noncomputable def Yh:Value:=.str "perlcore.convert" 515
noncomputable def LC:Value:=.str "perlcore.listops" 686
noncomputable def Yg:Value:=.str "perlcore.hashops" 745
noncomputable def AJ:Value:=.str "perlcore.dynamic" 775
noncomputable def V8:Value:=.str "perlcore.valueops" 923
noncomputable def FP:Value:=.str "perlcore.frames" 955
noncomputable def AI:Value:=.str "perlcore.methods" 1105
noncomputable def vV:Value:=.str "perlcore.piles" 1325
noncomputable def vU:Value:=.str "perlcore.runstmt" 1554
noncomputable def s_:Value:=.str "perlcore.runcalls" 1629
noncomputable def iu:Value:=.str "perlcore.counts" 1735
noncomputable def Yi:Value:=.str "perlcore.autoviv" 1979
noncomputable def Hg:Value:=.str "perlcore.lvalues" 1989
noncomputable def Rf:Value:=.str "perlcore.runexpr" 2024
noncomputable def Dr:Value:=.str "perlcore.runfuncs" 2047
noncomputable def qR:Value:=.str "perlcore.stash" 2096
noncomputable def vP:Value:=.str "law_sz0098_01" 2200
noncomputable def pL:Value:=.str "perlcore.errors" 538
noncomputable def He:Value:=.str "perlcore.ops" 1256
noncomputable def ut(P:Params):List DictEntry:=eL P [
 r3 "_wall" 193 21,e3 "FIGURES" 197<|.str "0123456789" 196,r3 "number_text" 205 28,e3 "HEX_FIGURES" 209<|.str "0123456789abcdef" 208,r3 "Thing" 243 45,r3 "Scalar" 270 66,r3 "Array" 296 85,r3 "Hash" 323 104,r3 "Code" 353 123,r3 "Glob" 383 142,r3 "Ref" 414 162,r3 "Heap" 491 225,r3 "thing_word" 498 236,r3 "hex_of" 506 243,r3 "ref_text" 514 250,r3 "value_of" 523 257,r3 "to_text" 530 264,r3 "truth" 537 271,r3 "PerlError" 568 288,r3 "Die" 593 308,r3 "SubReturn" 618 327,r3 "BadPattern" 644 346,r3 "BadTemplate" 660 358,r3 "TooLong" 685 377,e3 "TOO_MANY" 689<|.str "Out of memory!" 688,r3 "fresh_scalars" 695 384,r3 "drop_member" 704 391,r3 "check_room" 712 398,r3 "push_values" 721 405,r3 "unshift_values" 730 412,r3 "pop_value" 738 419,r3 "plain_values" 744 424,r3 "key_place" 756 431,r3 "delete_key" 765 438,r3 "flat_hash" 774 445,r3 "LAST_PATTERN" 779 446,r3 "let_go_of" 787 453,r3 "undo_scalar" 795 460,r3 "undo_array" 803 467,r3 "undo_hash" 811 474,r3 "undo_code" 819 481,r3 "undo_elem" 832 488,r3 "undo_helem" 844 495,r3 "undo_tied" 856 502,r3 "undo_pad" 864 509,r3 "undo_slot" 872 516,r3 "undo_match" 880 523,r3 "undo_package" 888 530,r3 "UNDOERS" 913 531,r3 "leave" 922 538,r3 "array_size" 931 545,r3 "array_members" 938 552,r3 "hash_members" 945 559,r3 "kept_value" 954 566,e3 "VOID_frames" 958<|.int 0 957,e3 "SCALAR" 960<|.int 1 959,e3 "LIST" 962<|.int 2 961,r3 "Frame" 1001 583,r3 "Run" 1051 604,r3 "evaluate" 1060 615,r3 "value_in" 1068 622,r3 "members_in" 1076 629,r3 "members_within" 1084 636,r3 "follows_any" 1093 643,r3 "listed_members" 1104 650,e3 "UNIVERSAL" 1108<|.str "UNIVERSAL" 1107,r3 "NEVER_AUTO" 1112 651,r3 "parents_of" 1118 656,r3 "line_of_package" 1131 663,r3 "whole_line" 1141 670,r3 "search_line" 1152 677,r3 "MethodCache" 1192 701,r3 "cut_name" 1200 712,r3 "class_of" 1209 719,r3 "has_package" 1218 726,r3 "no_method" 1228 733,r3 "autoload_in" 1239 740,r3 "method_for" 1255 747,r3 "OpsCode" 1294 764,r3 "WeighedCode" 1324 785,e3 "MOST_PILED" 1328<|.int 880 1327,e3 "CALL_COST" 1330<|.int 4 1329,e3 "LEAF_COST" 1332<|.int 10 1331,r3 "WEIGHTS" 1453 788,e3 "OTHER_WEIGHT" 1455<|.int 4 1454,r3 "CALLING" 1468 791,r3 "UNTOLD" 1471 792,r3 "CallFrame" 1503 809,r3 "tree_weights" 1509 816,r3 "code_weights" 1516 823,r3 "weights_seen" 1524 830,r3 "piled_behind" 1531 837,r3 "check_pile" 1540 844,r3 "called_frame" 1553 851,r3 "blank_value" 1562 858,r3 "with_line" 1570 865,r3 "count_step" 1577 872,r3 "statement_value" 1587 879,r3 "run_statement" 1598 886,r3 "run_body" 1610 893,r3 "do_expr_stmt" 1619 900,r3 "scalar_for" 1628 907,e3 "ARGS_NAME" 1632<|.str "main::_" 1631,r3 "ASKED_ITSELF" 1639 908,r3 "copied_result" 1645 913,r3 "call_args" 1656 920,r3 "lay_args" 1664 927,r3 "entered_value" 1676 934,r3 "check_call" 1684 941,r3 "call_with" 1702 948,r3 "call_code" 1713 955,r3 "method_name" 1722 962,r3 "eval_method" 1734 969,r3 "Tie" 1765 986,r3 "kept_behind" 1773 997,r3 "held_by" 1779 1002,r3 "empty_out" 1786 1009,r3 "in_order" 1792 1014,r3 "Counter" 1920 1106,r3 "bless_thing" 1928 1117,r3 "Limits" 1978 1135,r3 "made_thing" 1988 1146,r3 "lv_of" 1998 1153,r3 "is_gone" 2005 1160,r3 "pad_thing" 2015 1167,r3 "lv_pad_scalar" 2023 1174,r3 "node_scalar" 2035 1181,r3 "node_list" 2046 1188,e3 "VOID_runfuncs" 2050<|.int 0 2049,r3 "need_array" 2058 1195,r3 "tied_size" 2066 1202,r3 "push_func" 2076 1209,r3 "unshift_func" 2086 1216,r3 "pop_func" 2095 1223,r3 "Stash" 2178 1282,r3 "swap_held" 2187 1293,r3 "set_code" 2199 1300,r3 "_law_subs" 2210 1305,r3 "_law_said" 2219 1312,r3 "_law_blessed" 2228 1319,r3 "_law_body" 2234 1324,r3 "_law_ready" 2248 1331,r3 "_law_asked" 2258 1338,r3 "_law_deed" 2273 1345,r3 "_law_is_right" 2279 1350,r3 "law" 2299 1357]
def Ts(P:Params):List DictEntry:=eL P [
 eD 166,e3 "__package__" 167 .none,e3 "__loader__" 168<|.builtin "__main__.__loader__#opaque",e3 "__spec__" 169 .none,r3 "__annotations__" 170 6,r3 "__builtins__" 171 4,e3 "__file__" 173<|.str "/claim/cut.py" 172,e3 "__cached__" 174 .none]
noncomputable def plc:List Value:=[(1,0,20),(6,0,27),(16,0,34),(25,0,55),(31,0,74),(37,0,93),(44,0,112),(52,0,131),(61,0,150),(66,0,172),(91,0,235),(103,0,242),(109,0,249),(115,0,256),(121,0,263),(129,0,270),(132,0,277),(137,0,297),(142,0,316),(147,0,335),(152,0,354),(154,0,366),(161,0,383),(163,0,390),(169,0,397),(172,0,404),(176,0,411),(180,0,418),(184,0,423),(187,0,430),(194,0,437),(200,0,444),(209,0,452),(212,0,459),(215,0,466),(218,0,473),(221,0,480),(225,0,487),(239,0,494),(247,0,501),(260,0,508),(263,0,515),(266,0,522),(269,0,529),(272,0,537),(277,0,544),(281,0,551),(285,0,558),(289,0,565),(299,0,572),(308,0,593),(330,0,614),(334,0,621),(336,0,628),(338,0,635),(342,0,642),(353,0,649),(370,0,655),(375,0,662),(396,0,669),(402,0,676),(408,0,683),(422,0,711),(427,0,718),(438,0,725),(443,0,732),(448,0,739),(456,0,746),(478,0,753),(486,0,774),(499,0,798),(506,0,815),(522,0,822),(526,0,829),(532,0,836),(536,0,843),(540,0,850),(549,0,857),(553,0,864),(557,0,871),(561,0,878),(569,0,885),(578,0,892),(584,0,899),(587,0,906),(596,0,912),(602,0,919),(609,0,926),(613,0,933),(626,0,940),(632,0,947),(644,0,954),(652,0,961),(659,0,968),(669,0,975),(673,0,996),(680,0,1001),(692,0,1008),(709,0,1013),(715,0,1020),(802,0,1116),(805,0,1123),(814,0,1145),(821,0,1152),(825,0,1159),(827,0,1166),(833,0,1173),(836,0,1180),(841,0,1187),(856,0,1194),(859,0,1201),(861,0,1208),(868,0,1215),(875,0,1222),(881,0,1229),(919,0,1292),(924,0,1299),(932,0,1311),(934,0,1318),(938,0,1323),(946,0,1330),(961,0,1337),(963,0,1344),(982,0,1349),(986,0,1356)].flatMap λ p:Nat×Nat×Nat=>[.int (Int.ofNat p.1) 0,.int (Int.ofNat p.2.1) 0,.ref p.2.2]
def Ye(P:Params)(nm:Str)(tok m ep:Nat):Obj:=⟨.type "dict",none,.dict (eN P "__name__" 165 (.str nm tok)::(Ts P++(ut P).take m)).toArray ep, #[]⟩
noncomputable def Qe(m:Nat):Obj:=⟨.none,none,.fields (plc.take m).toArray, #[]⟩
def FS(l:List<|Nat×Obj):TR Obj:=l.foldl (λ t p=>TR.dL p.2 t p.1) .nil
noncomputable def Jz(d:Data):Option (Array Value):=match d with|.fields vs=>some vs|_=>none
noncomputable def Ph(v:Value):Option Str:=match v with|.str q _=>some q|_=>none
def EU(T:TR Obj)(c:Nat):Option Str:=bd (T.get c) λ o=>bd (Jz o.data) λ vs=>bd (vs.toList[1]?) Ph
def qj:Env:={scope:=pw.main.scope,locals:=3,globals:=3,cells:=[],code:=.ref 13,frame:=some 14}
def Oi(f n:Nat):List Stmt:=(pw.main.body.drop f).take n
def cE:Code:=.body pw.main.body qj
noncomputable abbrev q0:Pos:=⟨0,0,0,0⟩
noncomputable abbrev EB:=PySem.W.Fast.tw12563942051412417395
noncomputable abbrev I2:=PySem.W.Fast.tw8437177126325714943
noncomputable abbrev t8:=PySem.W.Fast.tw11892475500146522536
noncomputable abbrev oM:=PySem.W.Fast.tw14364793385576792824
noncomputable abbrev VP:=PySem.W.Fast.tw6613529449190102663
def thr(f n:Nat)(pos:Pos):Thread:=⟨(EB (Oi f n) qj).wrap doneF deadEnd id id,cE,pos,[topFrame q0]⟩
def AT(as cs:List Nat)(r:Flow×SP×Code×Pos):=(r.1,as.map r.2.1.tree.get,cs.map<|EU r.2.1.tree,r.2.1.n,r.2.1.gens,r.2.1.drawn,r.2.1.toks,r.2.1.os,r.2.2.1,r.2.2.2)
def ran(w:World)(os:OsState)(f n steps n1 tk:Nat)(pos:Pos)(kn:List<|Nat×Obj)(as cs:List Nat):=
 (CE (I2 (t8 oM) pw w) (VP 11<|some<|.ref 6) 1 (steps+1) ⟨FS kn,n1, #[],{},tk,os⟩<|thr f n pos).map (AT as cs)
noncomputable def FL(P:Params):Obj:=⟨.none,none,.dict [].toArray 0,[].toArray⟩
noncomputable def P0(P:Params):Obj:=⟨.type "code",none,.fields [.str "<module>" 182,.str "<module>" 183,.str "/claim/cut.py" 184,.int 1 0,.int 0 0,.int 0 0,.int 0 0,.int 0 0,.ref 11,.bool false,.int 181 0,.ref 12,.none,.none,.none,.none,.int 185 0,.int 1 0,.str "/claim/cut.py" 186].toArray,[].toArray⟩
def k6(P:Params)(o:Obj)(nm:Str)(tok m ep k:Nat)(l:List<|Nat×Obj):List (Nat×Obj):=(0,boot_o_0 P)::(2,o)::(3,Ye P nm tok m ep)::(4,boot_o_4 P)::(12,Qe k)::(13,P0 P)::l
abbrev bg:=List<|Nat×Obj
def Ze(P:Params):bg:=k6 P (FL P) "__main__" 164 0 9 0 []
def V6(P:Params):bg:=[fT 21 0 mV0,fT 28 3 mV1,fM 42 6 0 "Thing.__init__" nV]
noncomputable def cq0:List (Nat×Str):=[(20,"_wall"),(27,"number_text"),(41,"Thing.__init__")]
def xC(P:Params):Obj:=(dV P [eA 217 nV,eB 221 16 220,r3 "__init__" 229 42,eC 236 43,eE 238 46,eF 240 47,eD 241] 4)
def kn1(P:Params):bg:=k6 P (FL P) "perlcore.values" 206 5 14 9 [(44,xC P),tO 45 "Thing" [.type "object"] [.ref 45,.type "object"] 44 none none 210 218 "object.__new__"]
def QL(P:Params):bg:=[fM 63 7 0 "Scalar.__init__" nV,dO P 65 [eA 251 nV,eB 255 25 254,r3 "__init__" 264 63,eC 267 64,eD 268] 2,tO 66 "Scalar" [.ref 45] [.ref 66,.ref 45,.type "object"] 65 (some<|.ref 50) (none) 244 252 "object.__new__"]
noncomputable def cq1:List (Nat×Str):=[(62,"Scalar.__init__")]
def kn2(P:Params):bg:=k6 P (FL P) "perlcore.values" 206 6 15 12 [(44,xC P),(45,⟨.type "type",none,.cls<|cD "Thing" [.type "object"] [.ref 45,.type "object"] 44 "Thing" [.ref 66],[none,none,some<|.str "Thing" 210,some<|.str "Thing" 218,some<|.builtin "object.__new__",some<|.bool true].toArray⟩)]
def QF(P:Params):bg:=[fM 82 8 0 "Array.__init__" nV,dO P 84 [eA 278 nV,eB 282 31 281,r3 "__init__" 290 82,eC 293 83,eD 294] 2,tO 85 "Array" [.ref 45] [.ref 85,.ref 45,.type "object"] 84 (some<|.ref 69) (none) 271 279 "object.__new__"]
noncomputable def cq2:List (Nat×Str):=[(81,"Array.__init__")]
def kn3(P:Params):bg:=k6 P (FL P) "perlcore.values" 206 7 16 15 [(44,xC P),(45,⟨.type "type",none,.cls<|cD "Thing" [.type "object"] [.ref 45,.type "object"] 44 "Thing" [.ref 66,.ref 85],[none,none,some<|.str "Thing" 210,some<|.str "Thing" 218,some<|.builtin "object.__new__",some<|.bool true].toArray⟩)]
def V4(P:Params):bg:=[fM 101 9 0 "Hash.__init__" nV,dO P 103 [eA 304 nV,eB 308 37 307,r3 "__init__" 316 101,eC 320 102,eD 321] 2,tO 104 "Hash" [.ref 45] [.ref 104,.ref 45,.type "object"] 103 (some<|.ref 88) (none) 297 305 "object.__new__"]
noncomputable def cq3:List (Nat×Str):=[(100,"Hash.__init__")]
def kn4(P:Params):bg:=k6 P (FL P) "perlcore.values" 206 8 17 18 [(44,xC P),(45,⟨.type "type",none,.cls<|cD "Thing" [.type "object"] [.ref 45,.type "object"] 44 "Thing" [.ref 66,.ref 85,.ref 104],[none,none,some<|.str "Thing" 210,some<|.str "Thing" 218,some<|.builtin "object.__new__",some<|.bool true].toArray⟩)]
def QD(P:Params):bg:=[fM 120 10 0 "Code.__init__" nV,dO P 122 [eA 331 nV,eB 335 44 334,r3 "__init__" 345 120,eC 350 121,eD 351] 2,tO 123 "Code" [.ref 45] [.ref 123,.ref 45,.type "object"] 122 (some<|.ref 107) (none) 324 332 "object.__new__"]
noncomputable def cq4:List (Nat×Str):=[(119,"Code.__init__")]
def kn5(P:Params):bg:=k6 P (FL P) "perlcore.values" 206 9 18 21 [(44,xC P),(45,⟨.type "type",none,.cls<|cD "Thing" [.type "object"] [.ref 45,.type "object"] 44 "Thing" [.ref 66,.ref 85,.ref 104,.ref 123],[none,none,some<|.str "Thing" 210,some<|.str "Thing" 218,some<|.builtin "object.__new__",some<|.bool true].toArray⟩)]
def QC(P:Params):bg:=[fM 139 11 0 "Glob.__init__" nV,dO P 141 [eA 361 nV,eB 365 52 364,r3 "__init__" 374 139,eC 380 140,eD 381] 2,tO 142 "Glob" [.ref 45] [.ref 142,.ref 45,.type "object"] 141 (some<|.ref 126) (none) 354 362 "object.__new__"]
noncomputable def cq5:List (Nat×Str):=[(138,"Glob.__init__")]
def vA(P:Params):Obj:=⟨.type "type",none,.cls<|cD "Thing" [.type "object"] [.ref 45,.type "object"] 44 "Thing" [.ref 66,.ref 85,.ref 104,.ref 123,.ref 142],[none,none,some<|.str "Thing" 210,some<|.str "Thing" 218,some<|.builtin "object.__new__",some<|.bool true].toArray⟩
def kn6(P:Params):bg:=k6 P (FL P) "perlcore.values" 206 10 19 24 [(44,xC P),(45,vA P)]
def OA(P:Params):bg:=[(152,⟨.type "tuple",none,.seq [.bool false].toArray 0,[].toArray⟩),(159,ON (mS 12 0) "Ref.__init__" 3 (.ref 152) .none nV<|.ref 158),dO P 161 [eA 391 nV,eB 395 61 394,r3 "__init__" 404 159,eC 407 160,eE 409 163,eF 411 164,eD 412] 4,tO 162 "Ref" [.type "object"] [.ref 162,.type "object"] 161 none none 384 392 "object.__new__"]
noncomputable def cq6:List (Nat×Str):=[(158,"Ref.__init__")]
def kn7(P:Params):bg:=k6 P (FL P) "perlcore.values" 206 11 20 27 [(44,xC P),(45,vA P)]
def FN(P:Params):bg:=[fM 180 13 0 "Heap.__init__" nV,fM 187 13 1 "Heap.next_number" nV,fM 194 13 2 "Heap.new_scalar" nV,fM 201 13 3 "Heap.new_array" nV,fM 208 13 4 "Heap.new_hash" nV,fM 215 13 5 "Heap.new_code" nV,fM 222 13 6 "Heap.new_glob" nV,dO P 224 [eA 422 nV,eB 426 66 425,r3 "__init__" 434 180,r3 "next_number" 441 187,r3 "new_scalar" 449 194,r3 "new_array" 456 201,r3 "new_hash" 463 208,r3 "new_code" 472 215,r3 "new_glob" 480 222,eC 484 223,eE 486 226,eF 488 227,eD 489] 4,tO 225 "Heap" [.type "object"] [.ref 225,.type "object"] 224 none none 415 423 "object.__new__"]
noncomputable def cq7:List (Nat×Str):=[(179,"Heap.__init__"),(186,"Heap.next_number"),(193,"Heap.new_scalar"),(200,"Heap.new_array"),(207,"Heap.new_hash"),(214,"Heap.new_code"),(221,"Heap.new_glob")]
def kn8(P:Params):bg:=k6 P (FL P) "perlcore.values" 206 12 21 30 [(44,xC P),(45,vA P)]
def Oz(P:Params):bg:=[fT 236 14 nV,fT 243 15 nV,fT 250 16 nV,fT 257 18 Yh,fT 264 19 Yh,fT 271 20 Yh]
noncomputable def cq8:List (Nat×Str):=[(235,"thing_word"),(242,"hex_of"),(249,"ref_text"),(256,"value_of"),(263,"to_text"),(270,"truth")]
def kn9(P:Params):bg:=k6 P (FL P) "perlcore.errors" 538 18 27 48 [(44,xC P),(45,vA P)]
def Xm(P:Params):bg:=[fM 285 22 0 "PerlError.__init__" pL]
noncomputable def cq9:List (Nat×Str):=[(284,"PerlError.__init__")]
def mc(P:Params):Obj:=⟨.none,none,.dict [eN P "type.__subclasses__.Exception.0" 565<|.int 288 0,eN P "type.__subclasses__.Exception.n" 566<|.int 1 0].toArray 2,[].toArray⟩
def Ox(P:Params):Obj:=(dV P [eA 547 pL,eB 551 132 550,r3 "__init__" 559 285,eC 561 286,eF 563 289,eD 564] 3)
def Y4(P:Params):bg:=k6 P (mc P) "perlcore.errors" 538 19 28 51 [(44,xC P),(45,vA P),(287,Ox P),tO 288 "PerlError" [.type "Exception"] [.ref 288,.type "Exception",.type "BaseException",.type "object"] 287 (some<|.ref 272) (none) 540 548 "Exception.__new__"]
def QK(P:Params):bg:=[fM 305 23 0 "Die.__init__" pL,dO P 307 [eA 576 pL,eB 580 137 579,r3 "__init__" 588 305,eC 590 306,eD 591] 2,tO 308 "Die" [.ref 288] [.ref 308,.ref 288,.type "Exception",.type "BaseException",.type "object"] 307 (some<|.ref 292) (none) 569 577 "Exception.__new__"]
noncomputable def UO:List (Nat×Str):=[(304,"Die.__init__")]
def Y3(P:Params):bg:=k6 P (mc P) "perlcore.errors" 538 20 29 54 [(44,xC P),(45,vA P),(287,Ox P),(288,⟨.type "type",none,.cls<|cD "PerlError" [.type "Exception"] [.ref 288,.type "Exception",.type "BaseException",.type "object"] 287 "PerlError" [.ref 308],[some<|.ref 272,none,some<|.str "PerlError" 540,some<|.str "PerlError" 548,some<|.builtin "Exception.__new__",some<|.bool true].toArray⟩)]
def QJ(P:Params):bg:=[fM 324 24 0 "SubReturn.__init__" pL,dO P 326 [eA 601 pL,eB 605 142 604,r3 "__init__" 613 324,eC 615 325,eD 616] 2,tO 327 "SubReturn" [.ref 288] [.ref 327,.ref 288,.type "Exception",.type "BaseException",.type "object"] 326 (some<|.ref 311) (none) 594 602 "Exception.__new__"]
noncomputable def UN:List (Nat×Str):=[(323,"SubReturn.__init__")]
def Y1(P:Params):bg:=k6 P (mc P) "perlcore.errors" 538 21 30 57 [(44,xC P),(45,vA P),(287,Ox P),(288,⟨.type "type",none,.cls<|cD "PerlError" [.type "Exception"] [.ref 288,.type "Exception",.type "BaseException",.type "object"] 287 "PerlError" [.ref 308,.ref 327],[some<|.ref 272,none,some<|.str "PerlError" 540,some<|.str "PerlError" 548,some<|.builtin "Exception.__new__",some<|.bool true].toArray⟩)]
def QI(P:Params):bg:=[fM 343 25 0 "BadPattern.__init__" pL,dO P 345 [eA 626 pL,eB 630 147 629,r3 "__init__" 639 343,eC 641 344,eD 642] 2,tO 346 "BadPattern" [.ref 288] [.ref 346,.ref 288,.type "Exception",.type "BaseException",.type "object"] 345 (some<|.ref 330) (none) 619 627 "Exception.__new__"]
noncomputable def UM:List (Nat×Str):=[(342,"BadPattern.__init__")]
def Y0(P:Params):bg:=k6 P (mc P) "perlcore.errors" 538 22 31 60 [(44,xC P),(45,vA P),(287,Ox P),(288,⟨.type "type",none,.cls<|cD "PerlError" [.type "Exception"] [.ref 288,.type "Exception",.type "BaseException",.type "object"] 287 "PerlError" [.ref 308,.ref 327,.ref 346],[some<|.ref 272,none,some<|.str "PerlError" 540,some<|.str "PerlError" 548,some<|.builtin "Exception.__new__",some<|.bool true].toArray⟩)]
def QH(P:Params):bg:=[dO P 357 [eA 652 pL,eB 656 152 655,eC 657 356,eD 658] 2,tO 358 "BadTemplate" [.ref 288] [.ref 358,.ref 288,.type "Exception",.type "BaseException",.type "object"] 357 (some<|.ref 349) (none) 645 653 "Exception.__new__"]
noncomputable def UL:List (Nat×Str):=[]
def YZ(P:Params):bg:=k6 P (mc P) "perlcore.errors" 538 23 32 63 [(44,xC P),(45,vA P),(287,Ox P),(288,⟨.type "type",none,.cls<|cD "PerlError" [.type "Exception"] [.ref 288,.type "Exception",.type "BaseException",.type "object"] 287 "PerlError" [.ref 308,.ref 327,.ref 346,.ref 358],[some<|.ref 272,none,some<|.str "PerlError" 540,some<|.str "PerlError" 548,some<|.builtin "Exception.__new__",some<|.bool true].toArray⟩)]
def AB(P:Params):bg:=[fM 374 27 0 "TooLong.__init__" pL,dO P 376 [eA 668 pL,eB 672 154 671,r3 "__init__" 680 374,eC 682 375,eD 683] 2,tO 377 "TooLong" [.ref 288] [.ref 377,.ref 288,.type "Exception",.type "BaseException",.type "object"] 376 (some<|.ref 361) (none) 661 669 "Exception.__new__",fT 384 30 LC,fT 391 31 LC,fT 398 32 LC,fT 405 33 LC]
noncomputable def UK:List (Nat×Str):=[(373,"TooLong.__init__"),(383,"fresh_scalars"),(390,"drop_member"),(397,"check_room"),(404,"push_values")]
def ob6(P:Params):Obj:=⟨.type "type",none,.cls<|cD "PerlError" [.type "Exception"] [.ref 288,.type "Exception",.type "BaseException",.type "object"] 287 "PerlError" [.ref 308,.ref 327,.ref 346,.ref 358,.ref 377],[some<|.ref 272,none,some<|.str "PerlError" 540,some<|.str "PerlError" 548,some<|.builtin "Exception.__new__",some<|.bool true].toArray⟩
def kA(P:Params)(l:List<|Nat×Obj):List (Nat×Obj):=(44,xC P)::(45,vA P)::(287,Ox P)::(288,ob6 P)::l
def YY(P:Params):bg:=k6 P (mc P) "perlcore.listops" 686 29 38 78<|kA P []
def xF(P:Params):bg:=[fT 412 34 LC,fT 419 35 LC,fT 424 36 LC,fT 431 38 Yg,fT 438 39 Yg,fT 445 40 Yg,(446,⟨.type "tuple",none,.seq [.str "" 777,.str "last" 778].toArray 0,[].toArray⟩),fT 453 43 AJ,fT 460 44 AJ,fT 467 45 AJ,fT 474 46 AJ,fT 481 47 AJ,fT 488 48 AJ]
noncomputable def UJ:List (Nat×Str):=[(411,"unshift_values"),(418,"pop_value"),(423,"plain_values"),(430,"key_place"),(437,"delete_key"),(444,"flat_hash"),(452,"let_go_of"),(459,"undo_scalar"),(466,"undo_array"),(473,"undo_hash"),(480,"undo_code"),(487,"undo_elem")]
def YX(P:Params):bg:=k6 P (mc P) "perlcore.dynamic" 775 42 51 114<|kA P []
def QG(P:Params):bg:=[fT 495 49 AJ,fT 502 50 AJ,fT 509 51 AJ,fT 516 52 AJ,fT 523 53 AJ,fT 530 54 AJ]
noncomputable def UI:List (Nat×Str):=[(494,"undo_helem"),(501,"undo_tied"),(508,"undo_pad"),(515,"undo_slot"),(522,"undo_match"),(529,"undo_package")]
def YW(P:Params):bg:=k6 P (mc P) "perlcore.dynamic" 775 48 57 132<|kA P []
def Lq(P:Params):bg:=[dO P 531 [r3 "scalar" 889 460,r3 "array" 890 467,r3 "hash" 891 474,r3 "code" 892 481,r3 "elem" 893 488,r3 "helem" 894 495,r3 "pad" 895 509,r3 "slot" 896 516,r3 "match" 897 523,r3 "package" 898 530,r3 "tiedelem" 899 502,r3 "tiedkey" 900 502] 12]
noncomputable def UH:List (Nat×Str):=[]
def YV(P:Params):bg:=k6 P (mc P) "perlcore.dynamic" 775 49 58 132<|kA P []
def AA(P:Params):bg:=[fT 538 56 AJ,fT 545 58 V8,fT 552 59 V8,fT 559 60 V8,fT 566 61 V8]
noncomputable def UG:List (Nat×Str):=[(537,"leave"),(544,"array_size"),(551,"array_members"),(558,"hash_members"),(565,"kept_value")]
def YU(P:Params):bg:=k6 P (mc P) "perlcore.frames" 955 57 66 147<|kA P []
def Lp(P:Params):bg:=[fM 580 66 0 "Frame.__init__" FP]
noncomputable def UE:List (Nat×Str):=[(579,"Frame.__init__")]
def ob7(P:Params):Obj:=(dV P [eA 970 FP,eB 974 299 973,r3 "__init__" 987 580,eC 994 581,eE 996 584,eF 998 585,eD 999] 4)
def kB(P:Params)(o:Obj)(l:List<|Nat×Obj):List (Nat×Obj):=kA P ((582,ob7 P)::(583,o)::l)
def GW(P:Params):Obj:=⟨.type "type",none,.cls<|cD "Frame" [.type "object"] [.ref 583,.type "object"] 582 "Frame" [],[none,none,some<|.str "Frame" 963,some<|.str "Frame" 971,some<|.builtin "object.__new__",some<|.bool true].toArray⟩
def YT(P:Params):bg:=k6 P (mc P) "perlcore.frames" 955 58 67 150<|kB P (GW P) []
def qQ(P:Params):bg:=[fM 601 67 0 "Run.__init__" FP,dO P 603 [eA 1009 FP,eB 1013 308 1012,r3 "__init__" 1024 601,eC 1044 602,eE 1046 605,eF 1048 606,eD 1049] 4,tO 604 "Run" [.type "object"] [.ref 604,.type "object"] 603 none none 1002 1010 "object.__new__",fT 615 68 FP,fT 622 69 FP,fT 629 70 FP,fT 636 71 FP,fT 643 72 FP]
noncomputable def UD:List (Nat×Str):=[(600,"Run.__init__"),(614,"evaluate"),(621,"value_in"),(628,"members_in"),(635,"members_within"),(642,"follows_any")]
def YS(P:Params):bg:=k6 P (mc P) "perlcore.frames" 955 64 73 168<|kB P (GW P) []
def vF(P:Params):bg:=[fT 650 73 FP,(651,⟨.type "tuple",none,.seq [.str "DESTROY" 1109,.str "\x69mport" 1110,.str "unimport" 1111].toArray 0,[].toArray⟩),fT 656 77 AI,fT 663 78 AI,fT 670 79 AI,fT 677 80 AI]
noncomputable def UC:List (Nat×Str):=[(649,"listed_members"),(655,"parents_of"),(662,"line_of_package"),(669,"whole_line"),(676,"search_line")]
def YR(P:Params):bg:=k6 P (mc P) "perlcore.methods" 1105 71 80 183<|kB P (GW P) []
def vE(P:Params):bg:=[fM 691 81 0 "MethodCache.__init__" AI,fM 698 81 1 "MethodCache.find" AI,dO P 700 [eA 1160 AI,eB 1164 408 1163,r3 "__init__" 1171 691,r3 "find" 1182 698,eC 1185 699,eE 1187 702,eF 1189 703,eD 1190] 4,tO 701 "MethodCache" [.type "object"] [.ref 701,.type "object"] 700 none none 1153 1161 "object.__new__",fT 712 82 AI,fT 719 83 AI,fT 726 84 AI,fT 733 85 AI]
noncomputable def UB:List (Nat×Str):=[(690,"MethodCache.__init__"),(697,"MethodCache.find"),(711,"cut_name"),(718,"class_of"),(725,"has_package"),(732,"no_method")]
def YQ(P:Params):bg:=k6 P (mc P) "perlcore.methods" 1105 76 85 198<|kB P (GW P) []
def GY(P:Params):bg:=[fT 740 86 AI,fT 747 87 AI,fM 761 89 0 "OpsCode.__init__" He]
noncomputable def UA:List (Nat×Str):=[(739,"autoload_in"),(746,"method_for"),(760,"OpsCode.__init__")]
def zb(P:Params):Obj:=(dV P [eA 1265 He,eB 1269 478 1268,r3 "__init__" 1281 761,eC 1287 762,eE 1289 765,eF 1291 766,eD 1292] 4)
def YP(P:Params):bg:=k6 P (mc P) "perlcore.ops" 1256 79 88 207<|kB P (GW P) [(763,zb P),tO 764 "OpsCode" [.type "object"] [.ref 764,.type "object"] 763 none none 1258 1266 "object.__new__"]
def GX(P:Params):bg:=[fM 782 90 0 "WeighedCode.__init__" He,dO P 784 [eA 1302 He,eB 1306 486 1305,r3 "__init__" 1319 782,eC 1321 783,eD 1322] 2,tO 785 "WeighedCode" [.ref 764] [.ref 785,.ref 764,.type "object"] 784 (some<|.ref 769) (none) 1295 1303 "object.__new__"]
noncomputable def Uz:List (Nat×Str):=[(781,"WeighedCode.__init__")]
def my(P:Params):Obj:=⟨.type "type",none,.cls<|cD "OpsCode" [.type "object"] [.ref 764,.type "object"] 763 "OpsCode" [.ref 785],[none,none,some<|.str "OpsCode" 1258,some<|.str "OpsCode" 1266,some<|.builtin "object.__new__",some<|.bool true].toArray⟩
def YO(P:Params):bg:=k6 P (mc P) "perlcore.piles" 1325 83 92 210<|kB P (GW P) [(763,zb P),(764,my P)]
def Lo(P:Params):bg:=[dO P 788 [e3 "block" 1333<|.int 2 1334,e3 "expr" 1336<|.int 3 1337,e3 "if" 1339<|.int 4 1340,e3 "while" 1342<|.int 5 1343,e3 "dowhile" 1345<|.int 5 1346,e3 "cfor" 1348<|.int 5 1349,e3 "foreach" 1351<|.int 5 1352,e3 "bare" 1354<|.int 3 1355,e3 "return" 1357<|.int 2 1358,e3 "num" 1360<|.int 2 1361,e3 "str" 1363<|.int 2 1364,e3 "pads" 1366<|.int 2 1367,e3 "mys" 1369<|.int 2 1370,e3 "globs" 1372<|.int 2 1373,e3 "bin" 1375<|.int 3 1376,e3 "un" 1378<|.int 3 1379,e3 "and" 1381<|.int 3 1382,e3 "or" 1384<|.int 3 1385,e3 "dor" 1387<|.int 3 1388,e3 "xor" 1390<|.int 3 1391,e3 "cond" 1393<|.int 3 1394,e3 "list" 1396<|.int 3 1397,e3 "range" 1399<|.int 3 1400,e3 "repeat" 1402<|.int 3 1403,e3 "interp" 1405<|.int 3 1406,e3 "stringify" 1408<|.int 3 1409,e3 "call" 1411<|.int 4 1412,e3 "method" 1414<|.int 4 1415,e3 "assign" 1417<|.int 3 1418,e3 "doblock" 1420<|.int 2 1421,e3 "map" 1423<|.int 4 1424,e3 "grep" 1426<|.int 4 1427,e3 "sort" 1429<|.int 9 1430,e3 "func" 1432<|.int 6 1433,e3 "match" 1435<|.int 6 1436,e3 "subst" 1437<|.int 8 1438,e3 "trans" 1439<|.int 6 1440,e3 "local" 1441<|.int 6 1442,e3 "aassign" 1443<|.int 5 1444,e3 "refgen" 1445<|.int 5 1446] 40]
noncomputable def Uy:List (Nat×Str):=[]
def YN(P:Params):bg:=k6 P (mc P) "perlcore.piles" 1325 84 93 210<|kB P (GW P) [(763,zb P),(764,my P)]
noncomputable def QE(P:Params):bg:=[]
noncomputable def Ux:List (Nat×Str):=[]
def YM(P:Params):bg:=k6 P (mc P) "perlcore.piles" 1325 85 94 210<|kB P (GW P) [(763,zb P),(764,my P)]
def Ln(P:Params):bg:=[dO P 791 [e3 "call" 1456<|.int 2 1457,e3 "method" 1458<|.int 2 1459,e3 "sort" 1460<|.int 7 1461,e3 "evalstr" 1462<|.int 4 1463] 4]
noncomputable def Uw:List (Nat×Str):=[]
def YL(P:Params):bg:=k6 P (mc P) "perlcore.piles" 1325 86 95 210<|kB P (GW P) [(763,zb P),(764,my P)]
def qP(P:Params):bg:=[(792,⟨.type "tuple",none,.seq [.int 0 1469,.int 0 1470].toArray 0,[].toArray⟩),fM 806 99 0 "CallFrame.__init__" vV,dO P 808 [eA 1479 vV,eB 1483 499 1482,r3 "__init__" 1496 806,eC 1500 807,eD 1501] 2,tO 809 "CallFrame" [.ref 583] [.ref 809,.ref 583,.type "object"] 808 (some<|.ref 793) (none) 1472 1480 "object.__new__",fT 816 100 vV,fT 823 101 vV,fT 830 102 vV,fT 837 103 vV]
noncomputable def Uv:List (Nat×Str):=[(805,"CallFrame.__init__"),(815,"tree_weights"),(822,"code_weights"),(829,"weights_seen"),(836,"piled_behind")]
def sM(P:Params):Obj:=⟨.type "type",none,.cls<|cD "Frame" [.type "object"] [.ref 583,.type "object"] 582 "Frame" [.ref 809],[none,none,some<|.str "Frame" 963,some<|.str "Frame" 971,some<|.builtin "object.__new__",some<|.bool true].toArray⟩
def YK(P:Params):bg:=k6 P (mc P) "perlcore.piles" 1325 92 101 225<|kB P (sM P) [(763,zb P),(764,my P)]
def mz(P:Params):bg:=[fT 844 104 vV,fT 851 105 vV,fT 858 107 vU,fT 865 108 vU,fT 872 109 vU,fT 879 110 vU,fT 886 111 vU,fT 893 112 vU,fT 900 113 vU,fT 907 114 vU,(908,⟨.type "tuple",none,.seq [.str "pads" 1633,.str "globs" 1634,.str "mys" 1635,.str "rv2s" 1636,.str "elem" 1637,.str "helem" 1638].toArray 0,[].toArray⟩),fT 913 118 s_]
noncomputable def Uu:List (Nat×Str):=[(843,"check_pile"),(850,"called_frame"),(857,"blank_value"),(864,"with_line"),(871,"count_step"),(878,"statement_value"),(885,"run_statement"),(892,"run_body"),(899,"do_expr_stmt"),(906,"scalar_for"),(912,"copied_result")]
def YJ(P:Params):bg:=k6 P (mc P) "perlcore.runcalls" 1629 105 114 258<|kB P (sM P) [(763,zb P),(764,my P)]
def qO(P:Params):bg:=[fT 920 119 s_,fT 927 120 s_,fT 934 121 s_,fT 941 122 s_,fT 948 123 s_,fT 955 124 s_,fT 962 125 s_,fT 969 126 s_]
noncomputable def Ut:List (Nat×Str):=[(919,"call_args"),(926,"lay_args"),(933,"entered_value"),(940,"check_call"),(947,"call_with"),(954,"call_code"),(961,"method_name"),(968,"eval_method")]
def YI(P:Params):bg:=k6 P (mc P) "perlcore.counts" 1735 113 122 282<|kB P (sM P) [(763,zb P),(764,my P)]
def vD(P:Params):bg:=[fM 983 128 0 "Tie.__init__" iu,dO P 985 [eA 1744 iu,eB 1748 669 1747,r3 "__init__" 1756 983,eC 1758 984,eE 1760 987,eF 1762 988,eD 1763] 4,tO 986 "Tie" [.type "object"] [.ref 986,.type "object"] 985 none none 1737 1745 "object.__new__",fT 997 129 iu,fT 1002 130 iu,fT 1009 131 iu,fT 1014 132 iu]
noncomputable def Us:List (Nat×Str):=[(982,"Tie.__init__"),(996,"kept_behind"),(1001,"held_by"),(1008,"empty_out"),(1013,"in_order")]
def YH(P:Params):bg:=k6 P (mc P) "perlcore.counts" 1735 118 127 297<|kB P (sM P) [(763,zb P),(764,my P)]
def jY(P:Params):bg:=[fM 1028 133 0 "Counter.__init__" iu,fM 1035 133 1 "Counter.hold" iu,fM 1042 133 2 "Counter.let_go" iu,fM 1049 133 3 "Counter.note" iu,fM 1056 133 4 "Counter.take" iu,fM 1061 133 5 "Counter.put_off" iu,fM 1068 133 6 "Counter.store" iu,fM 1075 133 7 "Counter.fresh" iu,fM 1082 133 8 "Counter.drop" iu,fM 1089 133 9 "Counter.settle" iu,fM 1096 133 10 "Counter.finish" iu,fM 1103 133 11 "Counter.free" iu,dO P 1105 [eA 1800 iu,eB 1804 715 1803,r3 "__init__" 1813 1028,r3 "hold" 1821 1035,r3 "let_go" 1829 1042,r3 "note" 1837 1049,r3 "take" 1845 1056,r3 "put_off" 1851 1061,r3 "store" 1861 1068,r3 "fresh" 1870 1075,r3 "drop" 1878 1082,r3 "settle" 1888 1089,r3 "finish" 1896 1096,r3 "free" 1908 1103,eC 1913 1104,eE 1915 1107,eF 1917 1108,eD 1918] 4,tO 1106 "Counter" [.type "object"] [.ref 1106,.type "object"] 1105 none none 1793 1801 "object.__new__"]
noncomputable def Ur:List (Nat×Str):=[(1027,"Counter.__init__"),(1034,"Counter.hold"),(1041,"Counter.let_go"),(1048,"Counter.note"),(1055,"Counter.take"),(1060,"Counter.put_off"),(1067,"Counter.store"),(1074,"Counter.fresh"),(1081,"Counter.drop"),(1088,"Counter.settle"),(1095,"Counter.finish"),(1102,"Counter.free")]
def YG(P:Params):bg:=k6 P (mc P) "perlcore.counts" 1735 119 128 300<|kB P (sM P) [(763,zb P),(764,my P)]
def qN(P:Params):bg:=[fT 1117 134 iu,(1125,⟨.type "tuple",none,.seq [.int 64 1943,.int 50 1944,.int 1000000 1947,.int 100000 1950,.int 10000 1953].toArray 0,[].toArray⟩),(1132,ON (mS 136 0) "Limits.__init__" 3 (.ref 1125) .none (.str "perlcore.limits" 1929)<|.ref 1131),dO P 1134 [e3 "__module__" 1938<|.str "perlcore.limits" 1929,eB 1942 805 1941,r3 "__init__" 1965 1132,eC 1971 1133,eE 1973 1136,eF 1975 1137,eD 1976] 4,tO 1135 "Limits" [.type "object"] [.ref 1135,.type "object"] 1134 none none 1931 1939 "object.__new__",fT 1146 138 Yi,fT 1153 140 Hg,fT 1160 141 Hg]
noncomputable def Uq:List (Nat×Str):=[(1116,"bless_thing"),(1131,"Limits.__init__"),(1145,"made_thing"),(1152,"lv_of"),(1159,"is_gone")]
def YF(P:Params):bg:=k6 P (mc P) "perlcore.lvalues" 1989 124 133 315<|kB P (sM P) [(763,zb P),(764,my P)]
def pA(P:Params):bg:=[fT 1167 142 Hg,fT 1174 143 Hg,fT 1181 145 Rf,fT 1188 146 Rf,fT 1195 149 Dr,fT 1202 150 Dr,fT 1209 151 Dr,fT 1216 152 Dr,fT 1223 153 Dr]
noncomputable def Up:List (Nat×Str):=[(1166,"pad_thing"),(1173,"lv_pad_scalar"),(1180,"node_scalar"),(1187,"node_list"),(1194,"need_array"),(1201,"tied_size"),(1208,"push_func"),(1215,"unshift_func"),(1222,"pop_func")]
def YE(P:Params):bg:=k6 P (mc P) "perlcore.stash" 2096 134 143 342<|kB P (sM P) [(763,zb P),(764,my P)]
def sO(P:Params):bg:=[fM 1237 155 0 "Stash.__init__" qR,fM 1244 155 1 "Stash.glob_of" qR,fM 1251 155 2 "Stash.scalar_of" qR,fM 1258 155 3 "Stash.array_of" qR,fM 1265 155 4 "Stash.hash_of" qR,fM 1272 155 5 "Stash.code_of" qR,fM 1279 155 6 "Stash.find_array" qR,dO P 1281 [eA 2105 qR,eB 2109 881 2108,r3 "__init__" 2117 1237,r3 "glob_of" 2125 1244,r3 "scalar_of" 2134 1251,r3 "array_of" 2143 1258,r3 "hash_of" 2151 1265,r3 "code_of" 2159 1272,r3 "find_array" 2167 1279,eC 2171 1280,eE 2173 1283,eF 2175 1284,eD 2176] 4,tO 1282 "Stash" [.type "object"] [.ref 1282,.type "object"] 1281 none none 2098 2106 "object.__new__"]
noncomputable def Uo:List (Nat×Str):=[(1236,"Stash.__init__"),(1243,"Stash.glob_of"),(1250,"Stash.scalar_of"),(1257,"Stash.array_of"),(1264,"Stash.hash_of"),(1271,"Stash.code_of"),(1278,"Stash.find_array")]
def YD(P:Params):bg:=k6 P (mc P) "perlcore.stash" 2096 135 144 345<|kB P (sM P) [(763,zb P),(764,my P)]
def jX(P:Params):bg:=[fT 1293 156 qR,fT 1300 157 qR,(1301,⟨.type "tuple",none,.seq [.str "Stack::new" 2202,.str "new" 2203].toArray 0,[].toArray⟩),(1302,⟨.type "tuple",none,.seq [.str "Stack::put" 2204,.str "push" 2205].toArray 0,[].toArray⟩),(1303,⟨.type "tuple",none,.seq [.str "Stack::take" 2206,.str "pop" 2207].toArray 0,[].toArray⟩),(1304,⟨.type "tuple",none,.seq [.str "Queue::put" 2208,.str "unshift" 2209].toArray 0,[].toArray⟩),(1305,⟨.type "tuple",none,.seq [.ref 1301,.ref 1302,.ref 1303,.ref 1304].toArray 0,[].toArray⟩),fT 1312 160 vP,fT 1319 161 vP,fT 1324 162 vP,fT 1331 163 vP,fT 1338 164 vP,fT 1345 165 vP,fT 1350 166 vP,(1356,⟨.type "code",none,.fields [.str "law" 2280,.str "law" 2281,.str "/claim/cut.py" 2282,.int 986 0,.int 1 0,.int 0 0,.int 0 0,.int 3 0,.ref 1351,.bool true,.int 181 0,.ref 1352,.none,.ref 1353,.ref 1354,.ref 1355,.int 2297 0,.int 986 0,.str "/claim/cut.py" 2298].toArray,[].toArray⟩),fT 1357 167 vP]
noncomputable def vC:List (Nat×Obj):=[(1352,⟨.none,none,.fields [].toArray,[].toArray⟩)]
noncomputable def Un:List (Nat×Str):=[(1292,"swap_held"),(1299,"set_code"),(1311,"_law_said"),(1318,"_law_blessed"),(1323,"_law_body"),(1330,"_law_ready"),(1337,"_law_asked"),(1344,"_law_deed"),(1349,"_law_is_right"),(1356,"law")]
def lI(P:Params):bg:=k6 P (mc P) "law_sz0098_01" 2200 146 155 375<|kB P (sM P) [(763,zb P),(764,my P)]
structure Pt where
 f:Nat
 n:Nat
 tk:Nat
 p:Pos
 kn:Params->List (Nat×Obj)
abbrev Pass(a b:Pt)(st:Nat)(J:Params->List (Nat×Obj))(B:List<|Nat×Str)(w:World):Prop:=(λ os=>ran w os a.f (b.f-a.f) st a.n a.tk a.p (a.kn w.params) ((b.kn w.params++J w.params).map (·.1))<|B.map (·.1))=λ os=>
 some (.next,(b.kn w.params++J w.params).map<|λ p=>some p.2,B.map<|λ p=>some p.2,b.n, #[],{},b.tk,os,cE,b.p)
theorem lW{F:World->Prop}{x:String}(w:World)(h:∀b,F<|w.withFollow x b):F w:=World.withFollow_self w x▸h _
def LJ:Pt:=⟨0,15,187,⟨0,0,0,0⟩,Ze⟩
def Ju:Pt:=⟨7,50,244,⟨16,0,24,29⟩,kn1⟩
def FA:Pt:=⟨8,69,271,⟨25,0,30,25⟩,kn2⟩
def Fz:Pt:=⟨9,88,297,⟨31,0,36,24⟩,kn3⟩
def Ed:Pt:=⟨10,107,324,⟨37,0,43,24⟩,kn4⟩
def Dd:Pt:=⟨11,126,354,⟨44,0,51,29⟩,kn5⟩
def zx:Pt:=⟨12,145,384,⟨52,0,60,24⟩,kn6⟩
def zr:Pt:=⟨13,167,415,⟨61,0,65,30⟩,kn7⟩
def yO:Pt:=⟨14,230,492,⟨66,0,90,45⟩,kn8⟩
def w2:Pt:=⟨22,272,540,⟨131,0,131,8⟩,kn9⟩
def P9:Pt:=⟨23,292,569,⟨132,0,136,24⟩,Y4⟩
def P8:Pt:=⟨24,311,594,⟨137,0,141,26⟩,Y3⟩
def P7:Pt:=⟨25,330,619,⟨142,0,146,26⟩,Y1⟩
def P6:Pt:=⟨26,349,645,⟨147,0,151,20⟩,Y0⟩
def PZ:Pt:=⟨27,361,661,⟨152,0,153,8⟩,YZ⟩
def PY:Pt:=⟨34,406,722,⟨172,0,175,27⟩,YY⟩
def PX:Pt:=⟨49,489,833,⟨225,0,238,29⟩,YX⟩
def PW:Pt:=⟨55,531,889,⟨269,0,270,29⟩,YW⟩
def PV:Pt:=⟨56,532,914,⟨271,0,271,7⟩,YV⟩
def PU:Pt:=⟨66,567,963,⟨298,0,298,4⟩,YU⟩
def PT:Pt:=⟨67,588,1002,⟨299,0,307,24⟩,YT⟩
def PS:Pt:=⟨73,644,1094,⟨342,0,352,16⟩,YS⟩
def PR:Pt:=⟨81,678,1153,⟨402,0,407,15⟩,YR⟩
def PQ:Pt:=⟨86,734,1229,⟨443,0,447,20⟩,YQ⟩
def PO:Pt:=⟨90,769,1295,⟨478,0,485,24⟩,YP⟩
def PN:Pt:=⟨95,788,1333,⟨494,0,494,9⟩,YO⟩
def PM:Pt:=⟨96,791,1454,⟨495,0,495,7⟩,YN⟩
def PL:Pt:=⟨97,791,1456,⟨496,0,496,12⟩,YM⟩
def PK:Pt:=⟨98,792,1469,⟨497,0,497,7⟩,YL⟩
def PJ:Pt:=⟨104,838,1532,⟨532,0,535,53⟩,YK⟩
def PI:Pt:=⟨119,914,1646,⟨596,0,601,43⟩,YJ⟩
def PH:Pt:=⟨128,970,1737,⟨668,0,668,8⟩,YI⟩
def PG:Pt:=⟨133,1015,1793,⟨709,0,714,54⟩,YH⟩
def PF:Pt:=⟨134,1111,1921,⟨715,0,801,28⟩,YG⟩
def PE:Pt:=⟨142,1161,2006,⟨825,0,826,42⟩,YF⟩
def PD:Pt:=⟨155,1224,2098,⟨880,0,880,8⟩,YE⟩
def PC:Pt:=⟨156,1287,2179,⟨881,0,918,37⟩,YD⟩
def CT:Pt:=⟨168,1358,2300,⟨986,0,1009,15⟩,λ P=>lI P++vC⟩
theorem pc0(w:World):Pass LJ Ju 322 V6 cq0 w:=by kernel_rfl
theorem pc1(w:World):Pass Ju FA 247 QL cq1 w:=by kernel_rfl
theorem pc2(w:World):Pass FA Fz 246 QF cq2 w:=by kernel_rfl
theorem pc3(w:World):Pass Fz Ed 247 V4 cq3 w:=by kernel_rfl
theorem pc4(w:World):Pass Ed Dd 250 QD cq4 w:=by kernel_rfl
theorem pc5(w:World):Pass Dd zx 250 QC cq5 w:=by kernel_rfl
theorem pc6(w:World):Pass zx zr 225 OA cq6 w:=by kernel_rfl
theorem pc7(w:World):Pass zr yO 414 FN cq7 w:=by kernel_rfl
theorem pc8(w:World):Pass yO w2 194 Oz cq8 w:=by kernel_rfl
theorem pc9(w:World):Pass w2 P9 228 Xm cq9 w:=by kernel_rfl
theorem XQ(w:World):Pass P9 P8 245 QK UO w:=by kernel_rfl
theorem XP(w:World):Pass P8 P7 245 QJ UN w:=by kernel_rfl
theorem XO(w:World):Pass P7 P6 246 QI UM w:=by kernel_rfl
theorem XN(w:World):Pass P6 PZ 213 QH UL w:=by kernel_rfl
theorem XM(w:World):Pass PZ PY 381 AB UK w:=by kernel_rfl
theorem XK(w:World):Pass PY PX 396 xF UJ w:=by kernel_rfl
theorem XJ(w:World):Pass PX PW 188 QG UI w:=by kernel_rfl
theorem XI(w:World):Pass PW PV 202 Lq UH w:=lW (x:="special-get-raises") w λ b=>by cases b<;>kernel_rfl
theorem XH(w:World):Pass PV PU 194 AA UG w:=by kernel_rfl
theorem XG(w:World):Pass PU PT 232 Lp UE w:=by kernel_rfl
theorem XF(w:World):Pass PT PS 395 qQ UD w:=by kernel_rfl
theorem XE(w:World):Pass PS PR 190 vF UC w:=by kernel_rfl
theorem XD(w:World):Pass PR PQ 381 vE UB w:=by kernel_rfl
theorem XC(w:World):Pass PQ PO 310 GY UA w:=by kernel_rfl
theorem XB(w:World):Pass PO PN 286 GX Uz w:=by kernel_rfl
theorem XA(w:World):Pass PN PM 762 Lo Uy w:=lW (x:="special-get-raises") w λ b=>by cases b<;>kernel_rfl
theorem Xz(w:World):Pass PM PL 9 QE Ux w:=by kernel_rfl
theorem Xy(w:World):Pass PL PK 70 Ln Uw w:=lW (x:="special-get-raises") w λ b=>by cases b<;>kernel_rfl
theorem Xx(w:World):Pass PK PJ 378 qP Uv w:=by kernel_rfl
theorem Xw(w:World):Pass PJ PI 384 mz Uu w:=by kernel_rfl
theorem Xv(w:World):Pass PI PH 274 qO Ut w:=by kernel_rfl
theorem Xu(w:World):Pass PH PG 333 vD Us w:=by kernel_rfl
theorem Xt(w:World):Pass PG PF 583 jY Ur w:=by kernel_rfl
theorem Xs(w:World):Pass PF PE 400 qN Uq w:=by kernel_rfl
theorem Xr(w:World):Pass PE PD 318 pA Up w:=by kernel_rfl
theorem Xq(w:World):Pass PD PC 418 sO Uo w:=by kernel_rfl
theorem Xp(w:World):Pass PC CT 361 jX Un w:=by kernel_rfl
end
section
open V (TR bd cj aX kW)
def fj(h:Heap)(l:List<|Nat×Obj):Prop:=∀p∈l,h.get? p.1=some p.2
def um(h:Heap)(l:List<|Nat×Str):Prop:=∀p∈l,h.CodeRec (.ref p.1) p.2
theorem HU:@execs=EB:=PySem.W.Fast.te12563942051412417395
theorem KD:@step=I2:=PySem.W.Fast.te8437177126325714943
theorem wJ:@denote=t8:=PySem.W.Fast.te11892475500146522536
theorem r9:treeTable=oM:=PySem.W.Fast.te14364793385576792824
theorem XY:@stepOk=VP:=PySem.W.Fast.te6613529449190102663
noncomputable def xd:List Nat:=[0,2,3,4,12,13,44,45,287,288,582,583,763,764]
theorem rB:∀(l:List<|Nat×Obj)(t:TR Obj)(a:Nat)(o:Obj),(l.foldl (λ t p=>TR.dL p.2 t p.1) t).get a=some o->(∃p∈l,p.1=a/\p.2=o)\/t.get a=some o
 |[],_,_,_,e=>.inr e|p::l,t,a,o,e=>(rB l _ a o e).elim (λ⟨q,B,h⟩=>.inl ⟨q,.tail _ B,h⟩) λ h=>
  dite (a=p.1) (λ z=>by subst z;exact .inl<|cC p (.head _) rfl<|sI<|(TR.si p.2 t p.1).symm.trans h) λ z=>.inr<|(TR.kr z).symm.trans h
theorem qc:∀(l:List<|Nat×Obj)(t:TR Obj)(a:Nat),a∉l.map (·.1)->t.get a=none->(l.foldl (λ t p=>TR.dL p.2 t p.1) t).get a=none
 |[],_,_,_,e=>e|p::l,t,a,B,e=>qc l _ a (λ q=>B<|.tail _ q)<|(TR.kr λ z=>B<|List.mem_cons.mpr<|.inl z).trans e
theorem HT{d:Data}{vs:Array Value}(e:Jz d=some vs):d=.fields vs:=by
 cases d<;>first|exact nn e|exact congrArg _<|sI e
theorem Gw{v:Value}{q:Str}(e:Ph v=some q):∃t,v=.str q t:=by
 cases v<;>first|exact nn e|exact⟨_,congrArg (Value.str · _)<|sI e⟩
theorem Bu{T:TR Obj}{n:Nat}{h:Heap}(D:qZ T n h){c:Nat}{q:Str}(e:EU T c=some q):h.CodeRec (.ref c) q:=
 aX e λ o g e=>aX e λ vs d e=>aX e λ v hv e=>xE (Gw e) λ t z=>⟨c,o,vs,t,rfl,D.get _ _ g,HT d,Array.getElem?_toList.symm.trans<|z▸hv⟩
theorem Dv{as cs:List Nat}{z:Flow×SP×Code×Pos}{r:Flow×List (Option Obj)×List (Option Str)×Nat×Array GenState×Drawn×Nat×OsState×Code×Pos}(M:Flow×SP×Code×Pos->Prop)(e:AT as cs z=r)
  (k:∀T:TR Obj,as.map T.get=r.2.1->cs.map (EU T)=r.2.2.1->M (r.1,⟨T,r.2.2.2.1,r.2.2.2.2.1,r.2.2.2.2.2.1,r.2.2.2.2.2.2.1,r.2.2.2.2.2.2.2.1⟩,r.2.2.2.2.2.2.2.2.1,r.2.2.2.2.2.2.2.2.2)):M z:=by
 subst e;exact k z.2.1.tree rfl rfl
def Far(H H':Heap):Prop:=∀a o,a∉xd->H.get? a=some o->H'.get? a=some o
theorem CW{w:World}{os:OsState}{a b:Pt}{st:Nat}{nw:Params->List (Nat×Obj)}{J:List<|Nat×Str}{H:Heap}(e:Pass a b st nw J w)(hd:(a.kn w.params).map (·.1)=xd.filter (Nat.blt · a.n))(hn:H.objs.size=a.n)(K:fj H<|a.kn w.params):
  ∃H',segRun treeTable pw w 11 (some<|.ref 6) 1 (st+1) ⟨H, #[],{},a.tk,os⟩ (piecesOf (Oi a.f<|b.f-a.f) qj cE a.p [topFrame q0])=some (.next,⟨H', #[],{},b.tk,os⟩,cE,b.p)/\
   H'.objs.size=b.n/\fj H' (b.kn w.params++nw w.params)/\um H' J/\Far H H':=by
 have D:qZ (FS<|a.kn w.params) a.n H:=⟨hn,λ i o g=>(rB _ .nil i o g).elim (λ⟨p,hp,h1,h2⟩=>h1▸h2▸K p hp) λ g=>nn g⟩;refine a8 (Option.map_eq_some_iff.mp<|congrFun e os) λ z0 O e2=>?_;refine Dv (λ z=>CE (step (denote treeTable) pw w) (stepOk 11<|some<|.ref 6) 1 (st+1) ⟨FS<|a.kn w.params,a.n, #[],{},a.tk,os⟩ (piecesOf (Oi a.f<|b.f-a.f) qj cE a.p [topFrame q0])=some z->_) e2 (λ T' ea ec O=>?_) ?_
 .exact du (q8 D O) λ H' r B Kp _=>(gZ H' r B.size (λ p hp=>B.get _ _<|List.map_inj_left.mp ((List.map_map (l:=b.kn w.params++nw w.params)).symm.trans ea) p hp) (λ p hp=>Bu B<|List.map_inj_left.mp ((List.map_map (l:=J)).symm.trans ec) p hp)<|λ i o hi g=>Kp.keep i o (qc _ .nil i (λ q=>hi (List.mem_filter.mp (hd▸q:i∈xd.filter (Nat.blt · a.n))).1) rfl) g)
 .rw[KD,wJ,r9,XY];unfold piecesOf;rw[HU];exact O
end
section
open V (TR bd cj aX kW)
noncomputable abbrev qY:Option Value:=some<|.ref 6
def HB(P:Params):Heap:=⟨#[boot_o_0 P,boot_o_1 P,boot_o_2 P,boot_o_3 P,boot_o_4 P,boot_o_5 P,boot_o_6 P,boot_o_7 P,boot_o_8 P,boot_o_9 P,boot_o_10 P,
 ⟨.type "tuple",none,.seq #[] 0, #[]⟩,Qe 0,P0 P,⟨.type "frame",none,.plain, #[some<|.ref 13,some<|.ref 3,some<|.ref 3,none,some<|.str "__main__" 164,none,some<|.ref 0]⟩],{}⟩
noncomputable abbrev Cj:=PySem.W.Fast.tw15667345088766844465
noncomputable abbrev yZ:=PySem.W.Fast.tw14374325043358763698
theorem Gq:@topGo=Cj:=PySem.W.Fast.te15667345088766844465
theorem CD:@segRun=yZ:=PySem.W.Fast.te14374325043358763698
theorem ue:@blockStart=PySem.W.Fast.tw1066825118222455980:=PySem.W.Fast.te1066825118222455980
theorem Xn(w:World):(λ os=>Cj oM pw w 11 qY 12 ⟨boot_heap w.params,Array.mk [],boot_drawn,boot_toks,os⟩<|topStub pw)=λ os=>
  some (⟨HB w.params, #[],{},187,os⟩,⟨t8 oM cE,cE,q0,[topFrame q0]⟩):=by kernel_rfl
theorem abw(h:Heap)(w:World)(os:OsState):yZ oM pw w 11 qY 1 1 ⟨h, #[],{},187,os⟩ ⟨(PySem.W.Fast.tw1066825118222455980 pw.main.body qj).wrap (λ _=>doneF .next) deadEnd id id,cE,q0,[topFrame q0]⟩=
  some (.next,⟨h, #[],{},187,os⟩,cE,q0):=by kernel_rfl
theorem EN(f n:Nat):pw.main.body.drop f=Oi f n++pw.main.body.drop (f+n):=by
 unfold Oi;rw[<-List.drop_drop,List.take_append_drop]
theorem E3:pw.main.body.drop 168=[]:=by kernel_rfl
theorem Z3(h:Heap)(w:World)(os:OsState):topRun treeTable pw w 11 qY 2 ⟨h, #[],{},2300,os⟩ (restOf (pw.main.body.drop CT.f) qj cE CT.p [topFrame q0])=some ⟨h, #[],{},2300,os⟩:=by
 rw[show pw.main.body.drop CT.f=[]from E3];rfl
theorem Cr{w:World}{f n st N t t2:Nat}{os:OsState}{H H':Heap}{pos B:Pos}{r:Shared}
  (h:segRun treeTable pw w 11 qY 1 (st+1) ⟨H, #[],{},t,os⟩ (piecesOf (Oi f n) qj cE pos [topFrame q0])=some (.next,⟨H', #[],{},t2,os⟩,cE,B))
  (k:topRun treeTable pw w 11 qY N ⟨H', #[],{},t2,os⟩ (restOf (pw.main.body.drop<|f+n) qj cE B [topFrame q0])=some r):
  topRun treeTable pw w 11 qY (st+1+N) ⟨H, #[],{},t,os⟩ (restOf (pw.main.body.drop f) qj cE pos [topFrame q0])=some r:=
 EN f n▸piece_app h k
theorem zE{l:List Nat}(e:(l.all λ a=> !xd.contains a)=true){a:Nat}(h:a∈l):a∉xd:=λ q=>ff<|(X6<|bV e a h).symm.trans<|List.contains_iff_mem.mpr q
theorem DD{H:Heap}:∀{l:List<|Nat×Obj},l.map (λ p=>H.get? p.1)=l.map (λ p=>some p.2)->fj H l:=λ e p hp=>List.map_inj_left.mp e p hp
def Ch(w:World)(os:OsState)(a:Pt)(B:List<|Params->List (Nat×Obj))(J:List<|List<|Nat×Str):Prop:=∀H,H.objs.size=a.n->fj H (a.kn w.params)->
 ∃N H',topRun treeTable pw w 11 qY N ⟨H, #[],{},a.tk,os⟩ (restOf (pw.main.body.drop a.f) qj cE a.p [topFrame q0])=some ⟨H', #[],{},2300,os⟩/\H'.objs.size=1358/\fj H' (CT.kn w.params)/\(∀f∈B,fj H'<|f w.params)/\(∀c∈J,um H' c)/\Far H H'
theorem li{w:World}{os:OsState}{a b:Pt}{st:Nat}{nw:Params->List (Nat×Obj)}{B:List<|Nat×Str}{VZ:List<|Params->List (Nat×Obj)}{WK:List<|List<|Nat×Str}(e:Pass a b st nw B w)
  (hd:((a.kn w.params).map (·.1),Nat.ble a.f b.f,((nw w.params).map (·.1)++B.map (·.1)).all λ a=> !xd.contains a)=(xd.filter (Nat.blt · a.n),true,true)) (K:Ch w os b VZ WK):Ch w os a (nw::VZ) (B::WK):=λ H hn k=>
 ib (bx hd|>.imp id bx) λ h1 h2 h3=>du (CW (os:=os) e h1 hn k) λ H1 r s1 k1 O=>xA O λ c1 f1=>gd (K H1 s1 λ p hp=>k1 p<|aU hp) λ N H' r' s' kn f' cq J=>
  (iB _ H' (Cr r<|Nat.add_sub_cancel' (dY h2)▸r') s' kn (λ f hf=>(bG hf).elim (λ z p hp=>J _ _ (zE h3<|aU<|List.mem_map.mpr ⟨p,z▸hp,rfl⟩)<|k1 p<|aF<|z▸hp)<|f' f) (λ c hc=>(bG hc).elim (λ z p hp=>fU (c1 p<|z▸hp) λ c o vs t h1 h2 O=>xA O λ h4 h5=>⟨c,o,vs,t,h1,J _ _ (zE h3<|aF<|List.mem_map.mpr ⟨p,z▸hp,by cases h1;rfl⟩) h2,h4,h5⟩)<|cq c)<|λ i o hi g=>J i o hi<|f1 i o hi g)
def Xl:List (Params->List (Nat×Obj)):=[V6,QL,QF,V4,QD,QC,OA,FN,Oz,Xm,QK,QJ,QI,QH,AB,xF,QG,Lq,AA,Lp,qQ,vF,vE,GY,GX,Lo,QE,Ln,qP,mz,qO,vD,jY,qN,pA,sO,jX]
def cqL:List (List<|Nat×Str):=[cq0,cq1,cq2,cq3,cq4,cq5,cq6,cq7,cq8,cq9,UO,UN,UM,UL,UK,UJ,UI,UH,UG,UE,UD,UC,UB,UA,Uz,Uy,Ux,Uw,Uv,Uu,Ut,Us,Ur,Uq,Up,Uo,Un]
def Fj(P:Params):bg:=lI P++(Xl.map (· P)).flatten
def BK:List (Nat×Str):=cqL.flatten
theorem X'(w:World)(os:OsState):Ch w os LJ Xl cqL:=
 li (pc0 w) (by kernel_rfl)<|
 li (pc1 w) (by kernel_rfl)<|
 li (pc2 w) (by kernel_rfl)<|
 li (pc3 w) (by kernel_rfl)<|
 li (pc4 w) (by kernel_rfl)<|
 li (pc5 w) (by kernel_rfl)<|
 li (pc6 w) (by kernel_rfl)<|
 li (pc7 w) (by kernel_rfl)<|
 li (pc8 w) (by kernel_rfl)<|
 li (pc9 w) (by kernel_rfl)<|
 li (XQ w) (by kernel_rfl)<|
 li (XP w) (by kernel_rfl)<|
 li (XO w) (by kernel_rfl)<|
 li (XN w) (by kernel_rfl)<|
 li (XM w) (by kernel_rfl)<|
 li (XK w) (by kernel_rfl)<|
 li (XJ w) (by kernel_rfl)<|
 li (XI w) (by kernel_rfl)<|
 li (XH w) (by kernel_rfl)<|
 li (XG w) (by kernel_rfl)<|
 li (XF w) (by kernel_rfl)<|
 li (XE w) (by kernel_rfl)<|
 li (XD w) (by kernel_rfl)<|
 li (XC w) (by kernel_rfl)<|
 li (XB w) (by kernel_rfl)<|
 li (XA w) (by kernel_rfl)<|
 li (Xz w) (by kernel_rfl)<|
 li (Xy w) (by kernel_rfl)<|
 li (Xx w) (by kernel_rfl)<|
 li (Xw w) (by kernel_rfl)<|
 li (Xv w) (by kernel_rfl)<|
 li (Xu w) (by kernel_rfl)<|
 li (Xt w) (by kernel_rfl)<|
 li (Xs w) (by kernel_rfl)<|
 li (Xr w) (by kernel_rfl)<|
 li (Xq w) (by kernel_rfl)<|
 li (Xp w) (by kernel_rfl)<|
 λ H J k=>(iB _ H (Z3 H w os) J k (λ f B=>nomatch B) (λ c hc=>nomatch hc)<|λ _ _ _ e=>e)
theorem Al(w:World)(os:OsState):∃M H,topRun treeTable pw w 11 qY M ⟨boot_heap w.params,Array.mk [],boot_drawn,boot_toks,os⟩ (topStub pw)=some ⟨H, #[],{},2300,os⟩/\
  H.objs.size=1358/\fj H (Fj w.params)/\um H BK/\fj H vC:=by
 have k0:fj (HB w.params) (Ze w.params):=DD (by kernel_rfl);refine gd (X' w os (HB w.params) rfl k0) λ N H r s kn O B _=>?_;have hb:segRun treeTable pw w 11 qY 1 1 ⟨HB w.params, #[],{},187,os⟩ (blockOf pw.main.body qj cE q0 [topFrame q0])=some (.next,⟨HB w.params, #[],{},187,os⟩,cE,q0):=by
  rw[CD,r9];unfold blockOf;rw[ue];exact abw _ w os
 have hp:topGo treeTable pw w 11 qY 12 ⟨boot_heap w.params,Array.mk [],boot_drawn,boot_toks,os⟩ (topStub pw)=some (⟨HB w.params, #[],{},187,os⟩,⟨denote treeTable cE,cE,q0,[topFrame q0]⟩):=by
  rw[Gq,wJ,r9];exact congrFun (Xn w) os
 exact(jQ _ H (go_top hp<|piece_block hb r) s (λ p hp=>(dc hp).elim (λ h=>kn p<|aU h) λ h=>a8 (List.mem_flatten.mp h) λ l hl h=>a8 (eV hl) λ f J z=>O f J p<|z▸h) (λ p hp=>a8 (List.mem_flatten.mp hp) λ l hl h=>B l hl p h)<|λ p hp=>kn p<|aF hp)
end
open PySem.Calls PyProof.Rows
noncomputable section
abbrev KW:OpenLaw:=PySem.Challenge.rw_sz0098_01
theorem q9{a b:Bool}(h:a=true)(k:b=true):(a&&b)=true:=Bool.and_eq_true_iff.mpr ⟨h,k⟩
theorem CF{I:Type}{p:I->Bool}{a:I}{l:List I}(h:p a=false)(k:PySem.W.R.filterR p l=[]):PySem.W.R.filterR p (a::l)=[]:=(congrArg (Bool.rec (motive:=λ _=>List I) _ _) h).trans k
theorem sdV:PySem.W.Fast.tw13343964577679436407 pw pw.main.body ⟨⟨[118,97,114,115]⟩⟩=false:=by kernel_rfl
theorem sdD:PySem.W.Fast.tw13343964577679436407 pw pw.main.body ⟨⟨[100,105,114]⟩⟩=false:=by kernel_rfl
theorem Xh:PySem.W.Fast.tw13343964577679436407 pw pw.main.body ⟨⟨[108,111,99,97,108,115]⟩⟩=false:=by kernel_rfl
abbrev ub(s:Bool)(b:List Str):Bool:=PySem.W.Fast.tw8326940854005059898 {strict:=s,foot:=none,bare:=b} pw.main.body
theorem Xg:ub false []=true:=by kernel_rfl
theorem Xf{s:Bool}{b:List Str}(hs:s=false)(hb:b=[]):ub s b=true:=hs▸hb▸Xg
theorem sdR:PySem.W.Fast.tw8377067652309620493 pw=true:=by kernel_rfl
theorem sdM:PySem.W.Fast.tw17119622794617984870 pw pw.main.body (λ _ n=>PySem.W.Fast.tw17868728402115742887 n)=true:=by kernel_rfl
theorem sdO:PySem.W.Fast.tw12908688711261696721 pw=true:=q9 (q9 (q9 (q9 (q9 (by kernel_rfl) (by kernel_rfl)) sdR) (by kernel_rfl))<|Xf (by kernel_rfl)<|CF sdV<|CF sdD<|CF Xh rfl) sdM
theorem Pr:KW.wellSaid=true:=by
 refine(congrFun PySem.W.Fast.te9446332074065402090 _).trans ?_
 iterate 33 refine q9 ?_ ?_
 exact sdO
 all_goals kernel_rfl
structure Ready(w:World)(h:Heap):Prop where
 pR:fj h (Fj w.params)
 codes:um h BK
theorem Ready.keeps{w:World}{h h':Heap}(x:Ready w h)(k:∀b o,h.get? b=some o->h'.get? b=some o):Ready w h':=
 ⟨λ p hp=>k _ _<|x.pR p hp,λ p hp=>(x.codes p hp).keeps k⟩
theorem dU{h h':Heap}{a:Addr}(e:h.get? a=h'.get? a):h.isNs a=h'.isNs a:=by unfold Heap.isNs;rw[e]
theorem mA{h h':Heap}{a:Addr}(e:h.get? a=h'.get? a):h.nsKeys a=h'.nsKeys a:=by unfold Heap.nsKeys;rw[e]
theorem d7{h h':Heap}{a:Addr}(e:h.get? a=h'.get? a):h.nsMap a=h'.nsMap a:=by unfold Heap.nsMap;rw[e]
theorem xG{h h':Heap}{a:Addr}(e:h.get? a=h'.get? a):h.nsPairs a=h'.nsPairs a:=by unfold Heap.nsPairs;rw[e]
def aj(l:List<|Nat×Obj)(a:Nat):Obj:=((l.find? λ p=>Nat.beq p.1 a).map (·.2)).getD default
def hx(P:Params):Heap:=⟨#[aj (lI P) 0,default,aj (lI P) 2,aj (lI P) 3,aj (lI P) 4],{}⟩
theorem iy{h:Heap}{l:List<|Nat×Obj}(K:fj h l){a:Nat}(e:(l.find? λ p=>Nat.beq p.1 a).isSome=true):h.get? a=some (aj l a):=by
 obtain⟨p,hp⟩:=Option.isSome_iff_exists.mp e;have hm:=jb hp;have ha:=List.find?_some hp;have:p.1=a:=bC ha;clear e ha;subst this;have:=K p hm;rw[this];unfold aj;rw[hp];rfl
theorem Ready.xd{w:World}{h:Heap}(x:Ready w h):fj h (lI w.params):=λ p hp=>x.pR p<|aU hp
theorem Ready.WM{w:World}{h:Heap}(x:Ready w h):h.get? 0=(hx w.params).get? 0:=(iy x.xd (a:=0) (by kernel_rfl)).trans (by kernel_rfl)
theorem Ready.at2{w:World}{h:Heap}(x:Ready w h):h.get? 2=(hx w.params).get? 2:=(iy x.xd (a:=2) (by kernel_rfl)).trans (by kernel_rfl)
theorem Ready.zW{w:World}{h:Heap}(x:Ready w h):h.get? 3=(hx w.params).get? 3:=(iy x.xd (a:=3) (by kernel_rfl)).trans (by kernel_rfl)
theorem Ready.at4{w:World}{h:Heap}(x:Ready w h):h.get? 4=(hx w.params).get? 4:=(iy x.xd (a:=4) (by kernel_rfl)).trans (by kernel_rfl)
theorem Ql:opening pw=plainProg pw.main.scope.names:=by kernel_rfl
theorem MB(s:Shared):fenceModules? pw s=some s:=by kernel_rfl
theorem Jf:importedModules pw.main.body=[]:=by kernel_rfl
theorem nt(P:Params):(hx P).isNs 3=true:=by kernel_rfl
theorem Jl(P:Params):(hx P).isNs 2=true:=by kernel_rfl
theorem Jk(P:Params):(hx P).isNs 0=true:=by kernel_rfl
theorem UX(P:Params):(boot_heap P).isNs 2=true:=by kernel_rfl
theorem JV(P:Params):(boot_heap P).isNs 3=true:=by kernel_rfl
theorem Rj(P:Params):((boot_heap P).nsKeys 2++(hx P).nsKeys 2)=[Str.ofString "type.__subclasses__.Exception.0",Str.ofString "type.__subclasses__.Exception.n"]:=by kernel_rfl
theorem Ri(P:Params):(hx P).bltView=bltViewBooted:=by kernel_rfl
theorem Rh(P:Params):laidNames.map ((hx P).nsMap 3)=laidNames.map ((boot_heap P).nsMap 3):=by kernel_rfl
theorem Jj(P:Params):(hx P).nsMap 3 "__builtins__" =some (.ref 4):=by kernel_rfl
theorem Ji(P:Params):(hx P).nsMap 3 "law" =some (.ref 1357):=by kernel_rfl
theorem Rg(P:Params):(hx P).accountedOkI []=true:=by kernel_rfl
theorem LH(P:Params):((hx P).nsKeys 3).all (λ k=>startupNames.contains k||pw.boundNames.contains k)=true:=by kernel_rfl
end
noncomputable section
theorem Ho:pw.theDef "law" =(match tS 167 with|.FunctionDef _ args body _ _ _ scope _ _ _=>some (args,body,scope)|_=>none):=by kernel_rfl
theorem AZ:(match tS 167 with|.FunctionDef .. =>true|_=>false)=true:=by kernel_rfl
theorem LL:∃name args body ds ret B scope ts bind pos,tS 167=.FunctionDef name args body ds ret B scope ts bind pos:=by
 have h:=AZ;generalize tS 167=x at h⊢;cases x<;>first|exact⟨_,_,_,_,_,_,_,_,_,_,rfl⟩|exact ff h
def tD:Obj:=ON (tS 167) "law" 3 .none .none (.str "law_sz0098_01" 2200)<|.ref 1356
theorem Ready.Yx{w:World}{h:Heap}(x:Ready w h):h.get? 1357=some tD:=(iy x.pR (a:=1357) (by kernel_rfl)).trans<|congrArg some (by kernel_rfl)
theorem nB{h:Heap}(e:h.isNs 3=true)(n:Str):globalOf h n=h.nsMap 3 n:=Pin.globalOf_eq e n
theorem Dz:(match tS 167 with|.FunctionDef name .. =>name|_=>default)=Str.ofString "law" :=by kernel_rfl
theorem DA:(match tS 167 with|.FunctionDef _ args .. =>(args.defaults,args.kwonlyargs,args.kw_defaults)|_=>default)=([],[],[]):=by kernel_rfl
theorem xV{w:World}{h:Heap}(x:Ready w h):isTheDefsW pw h "law" :=by
 have g:globalOf h "law" =some (.ref 1357):=by
  rw[nB<|(dU x.zW).trans<|nt _,d7 x.zW];exact Ji _
 refine j_ LL λ name args fy=>j_ fy λ body ds J=>j_ J λ ret B9 O=>j_ O λ scope ts B=>j_ B λ bind pos e=>?_;have ln:=Dz;have ld:=DA;have lt:=Ho;have lo:=x.Yx;unfold tD ON at lo;rw[e]at ln ld lt lo;simp only[Prod.mk.injEq]at ld;refine ib ld λ d1 d2 d3=>?_;refine⟨1357,_,_,args,body,scope,g,lo,rfl,lt,ln,rfl,rfl,rfl,rfl,rfl,rfl,rfl,?_⟩;exact⟨.inl ⟨d1,rfl⟩,[],by rw[d2,d3];rfl,.inl ⟨rfl,rfl⟩⟩
theorem uY{w:World}{h:Heap}(x:Ready w h)(J:World)(O:J=w):staticsOk [] (boot_heap w.params) h=true:=by
 have B:=x.at2;unfold staticsOk;rw[dU (a:=cStatics) B,mA (a:=cStatics) B,show(boot_heap w.params).isNs cStatics=true from UX _,show(hx w.params).isNs cStatics=true from Jl _,
  show(boot_heap w.params).nsKeys cStatics++(hx w.params).nsKeys cStatics=_ from Rj _]
 simp only[Bool.true_and,List.all_cons,List.all_nil,Bool.and_true,Bool.and_eq_true,Bool.or_eq_true];exact⟨.inl<|.inl<|.inl (by rfl),.inl<|.inl<|.inl (by rfl)⟩
theorem AF{w:World}{h:Heap}(x:Ready w h):namesBound pw h=true:=by
 have e3:=x.zW;unfold namesBound;rw[dU (a:=mainGlobals) e3,mA (a:=mainGlobals) e3,show(hx w.params).isNs mainGlobals=true from nt _,Bool.true_and];exact LH w.params
theorem DC{w:World}{h:Heap}(x:Ready w h):laidKept (boot_heap w.params) h=true:=by
 have e3:=x.zW;unfold laidKept;rw[dU (a:=mainGlobals) e3,d7 (a:=mainGlobals) e3,show(hx w.params).isNs mainGlobals=true from nt _,show(boot_heap w.params).isNs mainGlobals=true from JV _];simp only[Bool.true_and,List.all_eq_true,decide_eq_true_eq];exactλ n B=>List.map_inj_left.mp (Rh w.params) n B
theorem Gp{w:World}{J:Shared}(e:(J.heap,J.gens,J.drawn,J.toks)=(boot_heap w.params,Array.mk [],boot_drawn,boot_toks))(z:J.asleep):
  ∃B,TopRan pw w J B/\B.asleep/\B.gens= #[]/\B.os=J.os/\B.heap.objs.size=1358/\B.toks=2300/\Ready w B.heap/\fj B.heap vC:=by
 obtain⟨h,gs,d,k,os⟩:=J;simp only[Prod.mk.injEq]at e;refine iI e λ z0 z1 z2 z3=>?_;clear e;subst z0;subst z1;subst z2;subst z3;refine la (Al w os) λ M H r hs K C aq=>?_;rw[<-table_eq_tree]at r;have R:Ready w H:=⟨K,C⟩;refine iI (topRun_spec _ _ _ _ z r) λ a l bX fr=>?_;have g3:H.isNs 3=true:=(dU R.zW).trans<|nt _;have g0:H.isNs 0=true:=(dU R.WM).trans<|Jk _;have gm:globalOf (boot_heap w.params) "__annotations__" =some (.ref 6):=by
  rw[Pin.globalOf_eq (show(boot_heap w.params).isNs mainGlobals=true from JV _)];exact(by kernel_rfl:(boot_heap w.params).nsMap mainGlobals "__annotations__" =some (.ref 6))
 refine(⟨⟨H, #[],{},2300,os⟩,⟨a,l,Shared.rest_eq rfl,λ b o hb O=>?_,?_,?_,Pin.keysAreStrs_of g3,?_,?_,λ g hg=>by simp at hg,names_of_bound<|AF R,laid_of_kept<|DC R⟩,Shared.asleep_of_life l z,rfl,rfl,hs,rfl,R,aq⟩)
 .refine fr b o ?_ (λ q=>O<|.inl q) (λ q=>O<|.inr<|.inl q) (λ q=>O<|.inr<|.inr<|gm.trans q) hb;have:=dJ hb;exact ba this (dY (by kernel_rfl:Nat.ble (boot_heap w.params).objs.size 11=true))
 .rw[Jf];refine Heap.accountedI_of_ok ?_;have:=Rg w.params;unfold Heap.accountedOkI at this⊢;rw[dU (a:=cStatics) R.at2,mA (a:=cStatics) R.at2,d7 (a:=cStatics) R.at2];exact this
 .rw[Jf];exact statics_of_ok (uY R w rfl)
 .intro name O;rw[Pin.builtinOf_eq g0];refine Heap.of_bltView g0 ?_ name O;unfold Heap.bltView;rw[xG (a:=builtinsNs) R.WM];exact Ri _
 .refine⟨4,_,?_,R.at4,rfl,rfl⟩;rw[nB g3,d7 R.zW];exact Jj _
abbrev fz:ClaimW:=KW.row.toRowW.claim
def w6:Prop:=∀(w:World)(s B:Shared)(args:List WData)(vs:List Value)(as:List Addr),Ready w B.heap->fj B.heap vC->s.heap.objs.size=1358->s.toks=2300->Ready w s.heap->fz.pre args=true->WData.layableAll args=true->
 Laid [] w s B args vs as->
 wpAny (model pw w) callerA (PySem.call (.ref 1357) vs) (λ v s'=>GoodWG fz (classAt s.heap) (ExcName.means s.heap) args B (.ok<|.ret v) s')
  (λ e s'=>GoodWG fz (classAt s.heap) (ExcName.means s.heap) args B (.error e) s') B
abbrev se(f:Scope->Str->Bool):TablesWhole.Alg Bool:=⟨λ sc n _=>f sc n,λ _ _ _ ok=>ok,λ _=>true,true,false,λ a b=>a&&b⟩
theorem tbW:PySem.W.Fast.tw6116379765354995101 (se PySem.W.Fast.tw15985051520779696433) pw.main=true:=by kernel_rfl
theorem tbM:TablesWhole.wModule TablesWhole.holds pw.main=true:=(congrFun (congrFun (congrFun PySem.W.Fast.te6116379765354995101 Bool) _) _).trans<|(congrArg (λ f=>PySem.W.Fast.tw6116379765354995101 (se f) pw.main) PySem.W.Fast.te15985051520779696433).trans tbW
theorem U2:pw.bare:=⟨rfl,rfl,rfl,rfl,rfl,(congrArg (λ b=>TablesWhole.holds.all [b,true,true,true]) tbM).trans rfl⟩
theorem Le:opensWell pw=true:=by decide+kernel
theorem Mv:frees KW.row.toRowW=true:=by rfl
theorem rb:KW.row.toRowW.promised:=by w_witness2
theorem Ea(call:w6):KW.Holds:=by
 refine⟨Pr,row_said Pr,rb,⟨U2,Le,rfl⟩,rb.witness,λ w=>?_⟩;refine a8 (Option.map_eq_some_iff.mp<|boot_open (N:=600) Ql rfl MB w) λ bX e0 JP=>?_;unfold fencedOpening at e0;rw[<-table_eq_tree]at e0;refine a8 (Option.bind_eq_some_iff.mp e0) λ s e1 e2=>?_;have A:=AfterImport.of_importEnds e1;refine⟨⟨s,A⟩,λ s' uD=>?_⟩;clear e1;obtain rfl:s'=s:=AfterImport.unique uD A;have z:bX.asleep:=Shared.asleep_of_life (fence_lifeW e2) A.life;refine du (Gp JP z) λ ci T OW hg fy=>eG fy λ R9 hsz tU R aq=>?_;have h0:bX.gens= #[]:=congrArg (λ x=>x.2.1) JP;have g3:ci.heap.isNs 3=true:=(dU R.zW).trans<|nt _;have nr:∀(x:Str×List (Str×WShape)),x∈fz.records->False:=λ x hx=>by
  have:x∈([]:List<|Str×List (Str×WShape)):=hx;cases this
 refine(⟨bX,e2,h0,ci,T,λ n hn=>?_,λ x hx=>(nr x hx).elim,λ x hx=>(nr x hx).elim,?_⟩)
 .obtain rfl:n=Str.ofString "law" :=by
   have:n∈[Str.ofString "law"]:=hn;simpa using this
  exact xV R
 .refine eG (frees_parts Mv) λ zw hu ha nv hm=>?_;refine ClaimW.callFrom_of_specG (c:=fz) (tree:=λ vs=>do match<-nsGet mainNs (Str.ofString "law")with
   |some f=>do ret (<-PySem.call f vs)
   |none=>unsupported "claim.caller:no-such-global") OW hg λ args D9 HD ord Me=>?_
  refine xE (Option.isSome_iff_exists.mp<|layAllW_isSome (R:=[]) (cl:=classAt ci.heap) (P:=w.params) (ord:=ord) (λ c hc=>nomatch hc) args KW.row.toRowW.args ci (pre_splitW D9).1) λ z0 J=>?_;obtain⟨vs,B⟩:=z0;have keeps:=layAllW_keeps _ _ _ J;have O:=layAllW_rest _ _ _ J;refine bc (reads_layAllW Me _ _ _ J HD B.heap<|λ _ _ e=>e) λ as h3 Zy hold=>?_;have L:Laid [] w ci B args vs as:=⟨⟨ord,Me,J⟩,h3,Zy,hold,keeps,O.1.trans hg,O.2.2.1⟩;have NZ:=R.keeps keeps;have hi:=ident_freeW (r:=KW.row.toRowW) hu ha nv;have gl:B.heap.nsMap mainNs (Str.ofString "law")=some (.ref 1357):=by
   rw[d7 (a:=mainNs) NZ.zW];exact Ji _
  have gN:B.heap.Ns mainNs (B.heap.nsMap mainNs):=Heap.Ns.of_isNs<|(dU (a:=mainNs) NZ.zW).trans<|nt _;refine⟨vs,B,J,ah<|wpAny_nsGet gN ?_⟩;rw[gl];refine ah (cN (call w ci B args vs as NZ (λ p hp=>keeps _ _<|aq p hp) hsz tU R D9 HD L) (λ v s' g=>ax ⟨_,rfl,?_⟩) λ e s' g=>?_)
  .have z:=g.laid (c:=fz) zw rfl hi L;exact⟨z.1,z.2.1,z.2.2,λ q=>by exact ff q⟩
  .have z:=g.laid (c:=fz) zw rfl hi L;exact⟨z.1,z.2.1,z.2.2,λ q=>by exact ff q⟩
end
end fH
namespace fH.V
open PySem PySem.W PySem.Calls PyProof.Rows
variable{A:Around}{I β:Type}
section
variable{M:Model}{E:Value->Shared->Prop}{s:Shared}
theorem xj{c:Prop}[Decidable c]{a b:Sem I}{Q:I->Shared->Prop}(h:¬c)(k:wpAny M A b Q E s):wpAny M A (if c then a else b) Q E s:=by rw[if_neg h];exact k
theorem WP{c:Prop}[Decidable c]{a b:Sem I}{Q:I->Shared->Prop}(h:c)(k:wpAny M A a Q E s):wpAny M A (if c then a else b) Q E s:=by rw[if_pos h];exact k
theorem iD{f:I->β->Sem (ForInStep β)}{x:I}{l:List I}{b:β}{Q:β->Shared->Prop}(h:wpAny M A (f x b) (λ r s'=>match r with|.yield b'=>wpAny M A (forIn l b' f) Q E s'|.done b'=>Q b' s') E s):wpAny M A (forIn (x::l) b f) Q E s:=by
 rw[List.forIn_cons];refine ah<|cN h (λ r s' B=>?_) λ _ _ h=>h;cases r with|done b'=>exact ax B|yield b'=>exact B
theorem tW{f:I->β->Sem (ForInStep β)}{b:β}{Q:β->Shared->Prop}(h:Q b s):wpAny M A (forIn [] b f) Q E s:=by rw[List.forIn_nil];exact ax h
end
variable{prog:Program}{h':Heap}
section
variable{w:World}{E:Value->Shared->Prop}{s:Shared}
def fk(prog:Program)(w:World)(h:Heap)(k:Str×List Str)(a:Addr):Prop:=∃u b o n,h.get? a=some o/\o.cls=.type "tuple" /\o.data=.seq #[u,.ref b] n/\(strKind prog w).is k.1 u=true/\IsTupleKey (strKind prog w) h k.2 b
theorem fk.typeIs{k}{a:Addr}(x:fk prog w s.heap k a):s.TypeIs (.ref a) "tuple" :=fU x λ _ _ o _ ho hc _=>⟨o,ho,hc⟩
theorem fk.inj{h}{a:Addr}{x y}(hx:fk prog w h x a)(B:fk prog w h y a):x=y:=
 cZ hx λ u b o n ho _ hd h1 h2=>cZ B λ u' b' o' n' J _ O HK HJ=>by
  cases sI (ho.symm.trans J);have z:=hd.symm.trans O;clear hx B hd O ho J;injection z with z _
  cases z;exact Prod.ext (Value.isStrOf_inj _ _ _ h1 HK)<|h2.inj HJ
def z8(h h':Heap):Prop:=∀a o ws m,h.get? a=some o->o.cls=.type "tuple" ->o.data=.seq ws m->h'.get? a=some o
theorem fk.mn{h}{k}{a:Addr}(x:fk prog w h k a)(t:z8 h h'):fk prog w h' k a:=
 cZ x λ u b o n ho hc hd h1 h2=>cQ h2 λ o' is n' O B J hi=>⟨u,b,o,n,t _ _ _ _ ho hc hd,hc,hd,h1,o',is,n',t _ _ _ _ O B J,B,J,hi⟩
theorem iK{h:Heap}{d:Addr}{o:Obj}{es ep}(ho:h.get? d=some o)(hd:o.data=.dict es ep)(hs:Heap.SameBut d h h'):z8 h h':=λ a o' ws m B hc J=>
 (hs.2 a λ z=>by clear hs hc;subst z;rw[ho]at B;obtain rfl:=sI B;rw[hd]at J;cases J).trans B
noncomputable def mixHash(prog:Program)(w:World)(k:Str×List Str):Int:=reduceHash<|Builtin.Tuple.tupleHashOf [hashStr w k.1,tupleKeyHash (strKind prog w) k.2]
theorem GO{ks}{a:Addr}{Q:Bool->Shared->Prop}(J:IsTupleKey (strKind prog w) s.heap ks a)(h:Q true s):wpAny (model prog w) A (eqIsQuiet 7<|.ref a) Q E s:=by
 have hT:=J.typeIs;refine cQ J λ o items n ho _ hd hi=>?_;unfold eqIsQuiet;refine ah<|wpAny_specialOf hT F.slot_tuple_eq.lookup ?_;show wpAny _ _ (isInstance (.ref a) (.type "tuple")>>=_) _ _ s;refine ah<|wpAny_isInstance hT isSubtype_tuple_tuple<|xj (λ h=>nomatch h)<|ah<|wpAny_seqItems ho hd<|ah ?_;show wpAny _ _ (forIn items _ _) _ _ s;rw[<-Array.forIn_toList];refine wpAny_forIn_list _ (λ rest r s'=>r.1=none/\s'=s/\∀v∈rest,carriedByValue v=true) _ ?_ ?_ _ _ ⟨rfl,rfl,hi.byValue⟩
 .intro v rest r s' ⟨O,e,B⟩;cases e;rw[eqIsQuiet_byValue _<|B v List.mem_cons_self];exact ah (ax<|xj (λ h=>nomatch h)<|ax ⟨rfl,rfl,λ u We=>B u<|List.mem_cons_of_mem _ We⟩)
 .intro ⟨r1,r2⟩ s' ⟨O,e,_⟩;cases e;cases O;exact ax h
theorem Aw{k}{a:Addr}{Q:Bool->Shared->Prop}(B:fk prog w s.heap k a)(h:Q true s):wpAny (model prog w) A (eqIsQuiet 8<|.ref a) Q E s:=by
 have hT:=B.typeIs;refine cZ B λ u b o n ho _ hd h1 h2=>?_;unfold eqIsQuiet;refine ah<|wpAny_specialOf hT F.slot_tuple_eq.lookup ?_;show wpAny _ _ (isInstance (.ref a) (.type "tuple")>>=_) _ _ s;refine ah<|wpAny_isInstance hT isSubtype_tuple_tuple<|xj (λ h=>nomatch h)<|ah<|wpAny_seqItems ho hd<|ah ?_;show wpAny _ _ (forIn #[u,.ref b] _ _) _ _ s;rw[<-Array.forIn_toList];refine iD ?_;rw[eqIsQuiet_byValue _<|(strKind prog w).byValue _ _ h1];exact ah<|ax<|xj (λ h=>nomatch h)<|ax<|iD<|ah<|GO h2<|xj (λ h=>nomatch h)<|ax<|tW<|ax h
theorem xw{k}{a:Addr}{Q:Int->Shared->Prop}(O:A.units+1<cLine)(J:fk prog w s.heap k a)(h:Q (mixHash prog w k) {s with toks:=s.toks+(1+(k.2.length+1)+1)}):
  wpAny (model prog w) A (pyHash<|.ref a) Q E s:=by
 have hT:=J.typeIs;refine cZ J λ u b o n ho _ hd h1 h2=>?_;rw[show s.toks+(1+(k.2.length+1)+1)=s.toks+1+(k.2.length+1)+1 from(congrArg (· +1)<|Nat.add_assoc ..).symm]at h;unfold pyHash
 first|unfold pyHashByItsType|skip
 first|refine ah (wpAny_cRoomFor_or (.inr (by exact d4 (by assumption))) ?_)|skip
 refine ah<|wpAny_specialOf hT F.slot_tuple_hash.lookup ?_;show wpAny _ _ (if(some (Value.builtin "tuple.__hash__")==some Value.none)=true then _ else _) Q E s;refine xj (by rw[beq_builtin_none];exact Bool.false_ne_true)<|ah<|wpAny_specialOf hT F.slot_tuple_hash.lookup ?_;show wpAny _ _ (callSpecialIfBoundUnlessNone? (.ref a) "__hash__" _>>=_) Q E s;refine ah<|wpAny_callSpecialIfBoundUnlessNone?_slot hT F.slot_tuple_hash<|wpAny_call_entry F.slot_tuple_hash hT F.entry_tuple_hash ?_<|F.args_tuple_hash_1 _;show wpAny _ _ (Builtin.Tuple.tupleItemsOf (.ref a)>>=_) _ _ s;refine ah<|wpAny_tupleItemsOf ho hd<|ah ?_;rw[<-Array.forIn_toList];refine iD<|ah<|(strKind prog w).pyHash h1<|ax<|iD<|ah<|wpAny_pyHash_tuple (by show A.in1.units<cLine;simp;assumption) h2<|ax<|tW ?_;show wpAny _ _ (retInt<|Builtin.Tuple.tupleHashOf [hashStr w k.1,tupleKeyHash (strKind prog w) k.2]) _ _ _;unfold mixHash reduceHash at h;generalize Builtin.Tuple.tupleHashOf [hashStr w k.1,tupleKeyHash (strKind prog w) k.2]=H at*;refine wpAny_ret_mkInt ?_;show wpAny _ _ (if(decide (-(2:Int)^63<=H)&&decide (H<2^63))=true then _ else _) Q E _;by_cases B:(decide (-(2:Int)^63<=H)&&decide (H<2^63))=true
 .rw[if_pos B]at h;exact WP B (ax h)
 .rw[if_neg B]at h;exact xj B<|ah<|wpAny_rule<|ax h
theorem vM{x y}{a b:Addr}{P:Fin->Shared->Prop}(hu:A.units<cLine)(hx:fk prog w s.heap x a)(O:fk prog w s.heap y b)(h:P (.done<|.ret<|.bool<|decide<|x=y) s):
  wpAny (model prog w) A (Builtin.«tuple.__eq__» ⟨[.ref a,.ref b],[]⟩) P E s:=by
 have B:=O.typeIs;refine cZ hx λ u1 b1 oa na Zt _ ZK h1 h2=>cZ O λ u2 b2 ob nb FU _ J k1 k2=>?_;show wpAny _ _ (isInstance (.ref b) (.type "tuple")>>=_) _ _ s;refine ah<|wpAny_isInstance B isSubtype_tuple_tuple<|xj (λ h=>nomatch h)<|ah<|wpAny_tupleItemsOf Zt ZK<|ah<|wpAny_tupleItemsOf FU J<|ah ?_;have no:x≠y->P (.done<|.ret<|.bool false) s:=λ q=>by rw[decide_eq_false q]at h;exact h
 refine iD<|ah<|(strKind prog w).eqBool h1 k1 ?_;by_cases q1:x.1=y.1
 .rw[decide_eq_true q1];refine xj (λ h=>nomatch h)<|ax<|iD<|ah<|wpAny_eqBool_tuple hu h2 k2 ?_;by_cases q2:x.2=y.2
  .rw[decide_eq_true q2];rw[decide_eq_true<|Prod.ext q1 q2]at h;exact xj (λ h=>nomatch h) (ax<|tW<|ax h)
  .rw[decide_eq_false q2];exact WP rfl (ah<|ax<|ax<|ax<|no λ e=>q2<|e▸rfl)
 .rw[decide_eq_false q1];exact WP rfl<|ah<|ax<|ax<|ax<|no λ e=>q1<|e▸rfl
theorem ym{x y}{a b:Addr}{Q:Bool->Shared->Prop}(O:A.units+1<cLine)(hx:fk prog w s.heap x a)(J:fk prog w s.heap y b)(h:Q (decide<|x=y) s):
  wpAny (model prog w) A (eqBool (.ref a)<|.ref b) Q E s:=by
 unfold eqBool
 try with_reducible refine wpAny_holding ?_
 show wpAny _ _ (if(Value.ref a==Value.ref b)=true then _ else _) Q E s;by_cases B:(Value.ref a==Value.ref b)=true
 .have e:a=b:=by have:=eq_of_beq B;injection this
  cases e;rw[decide_eq_true<|hx.inj J]at h;exact WP B (ah<|wpAny_rule<|ax h)
 .exact xj B (ah (wpAny_richCompare_same_room (op:=.Eq) hx.typeIs J.typeIs F.slot_tuple_eq
   (wpAny_call_entry F.slot_tuple_eq hx.typeIs F.entry_tuple_eq (vM (by show A.in1.units<cLine;simp;assumption) hx J<|cC _ rfl (λ e=>nomatch e)<|wpAny_truthy_bool h)<|F.args_tuple_eq_2 _ _) (by exact d4 (by assumption))))
end
def dT(prog:Program)(w:World):HeapKind prog w (Str×List Str)where
 is:=fk prog w
 hash:=mixHash prog w
 draws:=λ k=>1+(k.2.length+1)+1
 room:=λ A=>A.units+1<cLine
 inj:=λ hx O=>hx.inj O
 keeps:=λ x ho hd hs=>x.mn (iK ho hd hs)
 pyHash:=λ J B h=>xw J B h
 eqBool:=λ J hx O h=>ym J hx O h
 quiet:=λ B h=>Aw B h
inductive AV where
 |none
 |b (x:Bool)
 |i (v:Nat) (o:Int)
 |s (k:Nat)
 |r (a:Nat)
 |g (a:Nat)
 |bi (k:Nat)
 |ty (k:Nat)
 |t (xs:List AV)
inductive AO where
 |inst (c d:Nat)
 |ns (es:List<|Nat×AV)
 |list (xs:List AV)
 |seg (pre:List AV) (k lv:Nat) (post:List AV)
 |dict (es:List<|AV×AV)
 |map (es:List<|AV×Option AV)
 |cell (v:Option AV)
 |ch (f:Nat) (cs:List<|Nat×Nat) (c k:Nat)
 |ca (k:Nat)
structure St where
 T:TR AO
 nx:Nat
inductive BY where|add|sub|mul|mod
inductive WO where|eq|ne|lt|gt|is|gI|isin|fQ
inductive TG where
 |l (x:Nat)
 |b9 (x:Nat)
 |tup (ts:List TG)
 |bad
inductive IE where
 |c (v:AV)
 |tup (es:List IE)
 |list (es:List IE)
 |dict (ks vs:List IE)
 |l (x:Nat)
 |b9 (x:Nat)
 |cJ (x:Nat) (v:AV)
 |dg (e:IE) (x:Nat)
 |bin (op:BY) (l r:IE)
 |neg (e:IE)
 |not (e:IE)
 |and (es:List IE)
 |or (es:List IE)
 |cmp (op:WO) (l r:IE)
 |ite (t a b:IE)
 |call (f:IE) (as:List IE)
 |bT (o:IE) (x:Nat) (as:List IE)
 |sub (e k:IE)
 |oR (e:IE) (lo hi:Option IE)
 |comp (elt:IE) (t:TG) (it:IE) (ifs:List IE) (fr:List Nat)
 |bad (why:String)
inductive IS where
 |asg (t:TG) (e:IE)
 |n_ (o:IE) (x:Nat) (e:IE)
 |mR (o k:IE) (e:IE)
 |Iv (o:IE) (e:IE)
 |Iu (x:Nat) (op:BY) (e:IE)
 |n7 (o:IE) (x:Nat) (op:BY) (e:IE)
 |Ir (o k:IE) (op:BY) (e:IE)
 |ex (e:IE)
 |ret (e:Option IE)
 |cont
 |iff (t:IE) (a b:List IS)
 |Ga (t:IE) (b:List IS)
 |fr (t:TG) (e:IE) (b:List IS)
 |BV (t:TG) (e:IE) (b:List IS)
 |Cg (b f:List IS)
 |VB (b f:List IS)
 |Gn (b:List IS)
 |iq
 |WI (x:Nat) (f:Nat)
 |bad (why:String)
structure Fn where
 ps:List Nat
 dv:List AV
 cells:List Nat
 frees:List Nat
 body:List IS
structure Cl where
 init:Option Nat
 meths:List<|Nat×Nat
inductive Fl where
 |d6|cont|ret (v:AV)
structure Env where
 fn:TR Fn
 cl:TR Cl
 sub:List (Nat×List Nat)
 sd:List (Nat×List (AV×AV))
 cat:List (Nat×Nat×Nat)
 cr:Nat->Nat->Option Int
 L0:Int
 emp:Nat
 abR:Nat->Nat
 Um:List (Nat×Nat×Int)
 bn:Nat->Nat
 an:Nat->Bool
noncomputable def lk{I:Type}(k:Nat)(l:List<|Nat×I):Option I:=List.rec (motive:=λ _=>Option I) none (λ p _ ih=>Bool.rec (motive:=λ _=>Option I) ih (some p.2)<|Nat.beq p.1 k) l
noncomputable def dL{I:Type}(k:Nat)(v:I)(l:List<|Nat×I):List (Nat×I):=List.rec (motive:=λ _=>List<|Nat×I) [(k,v)] (λ p l ih=>Bool.rec (motive:=λ _=>List<|Nat×I) (p::ih) ((k,v)::l)<|Nat.beq p.1 k) l
noncomputable def gg(a b:Int):Bool:=match a,b with|.ofNat m,.ofNat n=>Nat.blt m n|.ofNat _,.negSucc _=>false|.negSucc _,.ofNat _=>true|.negSucc m,.negSucc n=>Nat.blt n m
noncomputable def WF(a b:Int):Bool:=match a,b with|.ofNat m,.ofNat n=>Nat.ble m n|.ofNat _,.negSucc _=>false|.negSucc _,.ofNat _=>true|.negSucc m,.negSucc n=>Nat.ble n m
noncomputable def wf(a b:Int):Bool:=match a,b with|.ofNat m,.ofNat n=>Nat.beq m n|.ofNat _,.negSucc _=>false|.negSucc _,.ofNat _=>false|.negSucc m,.negSucc n=>Nat.beq m n
noncomputable def bF{I β:Type}(x:Option<|I×St)(f:I->St->Option β):Option β:=Option.rec (motive:=λ _=>Option β) none (λ p=>Prod.rec (motive:=λ _=>Option β) (λ a st=>f a st) p) x
noncomputable def pt{β:Type}(x y:Option β):Option β:=Option.rec (motive:=λ _=>Option β) y some x
noncomputable def Qn(a:AV)(x:Option β):Option β:=match a with|.none=>x|_=>none
noncomputable def ky(a:AV)(f:Nat->Int->Option β):Option β:=match a with|.i v o=>f v o|_=>none
noncomputable def w_(a:AV)(f:Nat->Option β):Option β:=match a with|.s k=>f k|_=>none
noncomputable def uB(a:AV)(f:Nat->Option β):Option β:=match a with|.r j=>f j|_=>none
noncomputable def C4(a:AV)(f:List AV->Option β):Option β:=match a with|.t xs=>f xs|_=>none
noncomputable def GU(o:AO)(f:List AV->Option β)(g:List AV->Nat->Nat->List AV->Option β):Option β:=match o with|.list xs=>f xs|.seg p k lv q=>g p k lv q|_=>none
noncomputable def uC{I:Type}(l:List I)(f:I->List I->Option β):Option β:=match l with|[]=>none|a::l=>f a l
def wE{β:Type}(as:List AV)(f:AV->Option β):Option β:=uC as λ v l=>match l with|[]=>f v|_::_=>none
def Ai{β:Type}(as:List AV)(f:AV->AV->Option β):Option β:=uC as λ v l=>wE l<|f v
noncomputable def zj(o:AO):Option (List AV):=match o with|.list xs=>some xs|_=>none
def dE(T:TR AO)(j:Nat):Option (List AV):=bd (T.get j) zj
noncomputable def Wa(X:Env)(v:Nat):Int:=match Nat.beq v 0 with|true=>0|false=>match Nat.blt v 900 with|true=>X.L0+1|false=>0
noncomputable def Wl(v:Nat):Int:=match Nat.beq v 0 with|true=>0|false=>match Nat.blt v 900 with|true=>90000|false=>5000
def TW(X:Env)(v:Nat)(o:Int)(w:Nat)(p:Int):Option Bool:=pt (cj (Nat.beq v w)<|some<|gg o p) (cj (Nat.blt v 1800) (cj (Nat.blt w 1800)
 (pt (cj (gg (Wl v+o)<|Wa X w+p)<|some true) (pt (cj (WF (Wl w+p)<|Wa X v+o)<|some false)
  (cj (Nat.blt 0 v)<|cj (Nat.blt 0 w)<|cj (Nat.blt v 900)<|cj (Nat.blt w 900)<|pt (cj (Nat.blt v w)<|cj (WF o p)<|some true)<|cj (Nat.blt w v)<|cj (WF p o)<|some false)))))
def WD(X:Env)(v:Nat)(o:Int)(w:Nat)(p:Int):Option Bool:=pt (cj (Nat.beq v w)<|some<|wf o p)<|pt (bd (TW X v o w p) λ b=>cj b<|some false)<|bd (TW X w p v o) λ b=>cj b<|some false
noncomputable def OO(f:AV->AV->Option Bool):List AV->List AV->Option Bool
 |[],l=>match l with|[]=>some true|_::_=>some false
 |a::xs,l=>match l with|[]=>some false|c::ys=>bd (f a c) λ b=>match b with|true=>OO f xs ys|false=>some false
noncomputable def jT(X:Env):Nat->AV->AV->Option Bool
 |0,_,_=>none|n+1,a,c=>pt (ky a λ v o=>ky c λ w p=>WD X v o w p)<|pt (w_ a λ j=>w_ c λ k=>some<|Nat.beq j k)<|C4 a λ xs=>C4 c λ ys=>OO (jT X n) xs ys
def MM(o:AO):Option Bool:=GU o (λ xs=>match xs with|[]=>some true|_::_=>some false) λ p _ _ q=>pt (uC p λ _ _=>some false)<|uC q λ _ _=>some false
def g_(T:TR AO)(j:Nat):Option Bool:=bd (T.get j) MM
def H2(X:Env)(a c:AV):Option Bool:=pt (ky a λ v o=>pt (ky c λ w p=>WD X v o w p)<|Qn c<|some false)<|pt (w_ a λ j=>w_ c λ k=>some<|Nat.beq j k)<|Qn a<|ky c λ _ _=>some false
noncomputable def len{I:Type}:List I->Nat
 |[]=>0|_::l=>len l+1
noncomputable def EG(X:Env):List AV->List AV->Option Bool
 |[],l=>match l with|[]=>some true|_::_=>none
 |a::xs,l=>uC l λ c ys=>bd (H2 X a c) λ x=>bd (EG X xs ys) λ y=>some<|x&&y
def MF(X:Env)(T:TR AO)(j k:Nat):Option Bool:=bd (dE T j) λ xs=>bd (dE T k) λ ys=>match Nat.beq (len xs) (len ys)with|true=>EG X xs ys|false=>some false
def WC(T:TR AO)(j k:Nat):Option Bool:=bd (g_ T j) λ x=>bd (g_ T k) λ y=>match x with|true=>some y|false=>cj y<|some false
def Tr(X:Env)(T:TR AO)(a c:AV):Option Bool:=pt (uB a λ j=>uB c λ k=>pt (WC T j k)<|MF X T j k)<|H2 X a c
noncomputable def isNone:AV->Option Bool
 |.none=>some true|.bi _=>none|.ty _=>none|_=>some false
def Za(a c:AV):Option Bool:=Qn c<|isNone a
noncomputable def TP(X:Env)(k:AV):List (AV×AV)->Option (Option AV)
 |[]=>some none|p::l=>bd (jT X 8 p.1 k) λ b=>match b with|true=>some (some p.2)|false=>TP X k l
noncomputable def PP(X:Env)(k v:AV):List (AV×AV)->Option (List<|AV×AV)
 |[]=>some [(k,v)]|p::l=>bd (jT X 8 p.1 k) λ b=>match b with|true=>some ((p.1,v)::l)|false=>bd (PP X k v l) λ l'=>some (p::l')
noncomputable def Q6(X:Env)(k:AV):List (AV×Option AV)->Option (Option AV)
 |[]=>none|p::l=>bd (jT X 8 p.1 k) λ b=>match b with|true=>some p.2|false=>Q6 X k l
noncomputable def Dl(X:Env)(k v:AV):List (AV×Option AV)->Option (List<|AV×Option AV)
 |[]=>some []|p::l=>bd (jT X 8 p.1 k) λ b=>bd (Dl X k v l) λ l'=>some ((p.1,match b with|true=>some v|false=>p.2)::l')
noncomputable def NO:List AV->Option (List Nat)
 |[]=>some []|a::l=>w_ a λ k=>bd (NO l) λ ks=>some (k::ks)
def wS(k:AV):Option Unit:=pt (ky k λ _ _=>some ())<|pt (w_ k λ _=>some ())<|C4 k λ xs=>Ai xs λ a c=>w_ a λ _=>C4 c λ ys=>bd (NO ys) λ _=>some ()
def AT(X:Env)(k:AV)(es:List<|AV×AV):Option (Option AV):=bd (wS k) λ _=>TP X k es
def NE(X:Env)(k v:AV)(es:List<|AV×AV):Option (List<|AV×AV):=bd (wS k) λ _=>PP X k v es
def Dm(X:Env)(k:AV)(es:List<|AV×Option AV):Option (Option AV):=bd (wS k) λ _=>Q6 X k es
def Di(X:Env)(k v:AV)(es:List<|AV×Option AV):Option (List<|AV×Option AV):=bd (Dm X k es) λ _=>Dl X k v es
noncomputable def isIn(X:Env)(k:AV):List AV->Option Bool
 |[]=>some false|a::l=>bd (H2 X a k) λ x=>bd (isIn X k l) λ y=>some<|x||y
def bf(T:TR AO)(a:AV):Option Bool:=match a with|.none=>some false|.b x=>some x|.r j=>bd (g_ T j) λ x=>some (!x)|_=>none
noncomputable def QM(l:List AV):Nat->Option AV
 |0=>uC l λ a _=>some a|n+1=>uC l λ _ l=>QM l n
noncomputable def app{I:Type}:List I->List I->List I
 |[],l=>l|a::k,l=>a::app k l
noncomputable def tk{I:Type}:Nat->List I->List I
 |0,_=>[]|_+1,[]=>[]|n+1,a::l=>a::tk n l
noncomputable def dr{I:Type}:Nat->List I->List I
 |0,l=>l|_+1,[]=>[]|n+1,_::l=>dr n l
noncomputable def xz(v:AV):Nat->List AV->Option (List AV)
 |0,l=>uC l λ _ l=>some (v::l)|n+1,l=>uC l λ a l=>bd (xz v n l) λ l'=>some (a::l')
def idx(n:Nat)(o:Int):Option Nat:=match o with|.ofNat m=>cj (Nat.blt m n) (cj (Nat.blt m 20000)<|some m)|.negSucc m=>cj (Nat.blt m n)<|cj (Nat.blt m 20000)<|some<|n-m-1
def VO{β:Type}(a:AV)(f:Nat->Option β):Option β:=ky a λ v o=>cj (Nat.beq v 0) (match o with|.ofNat n=>f n|.negSucc _=>none)
def TE(l:List AV)(lo hi:Option AV):Option (List AV):=match lo with|none=>bd hi λ a=>VO a λ k=>some (tk k l)|some a=>match hi with|none=>VO a λ k=>some (dr k l)|some _=>none
noncomputable def T0(X:Env)(a:AV):List AV->Option (List AV)
 |[]=>some [a]|c::l=>ky a λ v o=>ky c λ w p=>bd (TW X v o w p) λ b=>match b with|true=>some (a::c::l)|false=>bd (T0 X a l) λ l'=>some (c::l')
noncomputable def FM:List Nat->List AV->Option (List<|Nat×AV)
 |[],l=>match l with|[]=>some []|_::_=>none
 |k::ks,l=>uC l λ v vs=>bd (FM ks vs) λ l=>some ((k,v)::l)
def NQ(v:Nat)(o:Int)(w:Nat)(p:Int):Option AV:=pt (cj (Nat.beq w 0)<|some<|.i v<|o+p)<|cj (Nat.beq v 0)<|some<|.i w<|o+p
def KA(v:Nat)(o:Int)(w:Nat)(p:Int):Option AV:=cj (Nat.beq w 0)<|some<|.i v<|o-p
def a_(o:AO)(st:St):St:=⟨st.T.dL o st.nx,Nat.succ st.nx⟩
def new(o:AO)(st:St):Option (AV×St):=some (.r st.nx,a_ o st)
def im(a:Nat)(o:AO)(st:St):St:=⟨st.T.dL o a,st.nx⟩
def U9(X:Env)(a c:AV)(st:St):Option (AV×St):=
 pt (ky a λ v o=>ky c λ w p=>bd (NQ v o w p) λ x=>some (x,st))
 (pt (uB a λ j=>uB c λ k=>bd (dE st.T j) λ xs=>bd (dE st.T k) λ ys=>cj (Nat.ble (len xs+len ys) 4000)<|new (.list<|app xs ys) st)
 (w_ a λ j=>w_ c λ k=>bd (X.cat.find? λ q=>Nat.beq q.1 j&&Nat.beq q.2.1 k) λ q=>some (.s q.2.2,st)))
def Xc(a c:AV)(st:St):Option (AV×St):=ky a λ v o=>ky c λ w p=>bd (KA v o w p) λ x=>some (x,st)
def QX(a c:AV)(st:St):Option (AV×St):=uB a λ j=>ky c λ v o=>bd (dE st.T j) λ _=>cj (Nat.beq v 0)<|cj (wf o 0)<|new (.list []) st
def Q0(X:Env)(a c:AV)(st:St):Option (AV×St):=ky a λ v o=>ky c λ w p=>cj (Nat.beq w 0)<|cj (WF 1 p)<|pt (cj (Nat.beq v 0)<|some (.i 0<|o.emod p,st))<|cj (wf o 0)<|bd (X.cr v p.toNat) λ x=>some (.i 0 x,st)
def E8(op:BY)(a c:AV):Option AV:=ky a λ v o=>ky c λ w p=>match op with|.add=>NQ v o w p|.sub=>KA v o w p|_=>none
def NI(X:Env)(op:BY)(a c:AV)(st:St):Option (AV×St):=match op with|.add=>U9 X a c st|.sub=>Xc a c st|.mul=>QX a c st|.mod=>Q0 X a c st
def Dw(o:AO):Option AV:=GU o (λ xs=>some<|.i 0<|Int.ofNat<|len xs) λ p _ lv q=>some<|.i lv<|Int.ofNat<|len p+len q
def kq(n:Nat)(ys:List AV)(o:AO):Option AO:=cj (Nat.ble (n+len ys) 4000)<|some o
def Fd(ys:List AV)(o:AO):Option AO:=GU o (λ xs=>kq (len xs) ys<|.list<|app xs ys) λ p k lv q=>kq (len p+len q) ys<|.seg p k lv<|app q ys
def K9(ys:List AV)(o:AO):Option AO:=GU o (λ xs=>kq (len xs) ys<|.list<|app ys xs) λ p k lv q=>kq (len p+len q) ys<|.seg (app ys p) k lv q
noncomputable def ik:List AV->Option (List AV×AV)
 |[]=>none|a::l=>match l with|[]=>some ([],a)|_::_=>bd (ik l) λ p=>some (a::p.1,p.2)
def jL(o:AO):Option (AV×AO):=GU o (λ xs=>bd (ik xs) λ p=>some (p.2,.list p.1)) λ p k lv q=>bd (ik q) λ r=>some (r.2,.seg p k lv r.1)
def lu(o:AO):Option (AV×AO):=GU o (λ xs=>uC xs λ a l=>some (a,.list l)) λ p k lv q=>uC p λ a p=>some (a,.seg p k lv q)
noncomputable def rt(o:AO):Bool:=match o with|.list _=>true|.seg _ _ _ _=>true|_=>false
noncomputable def Js(o:AO):Bool:=match o with|.dict _=>true|.map _=>true|_=>false
def VA(T:TR AO)(v:AV)(k:Nat):Option Bool:=match v with|.i _ _=>some (Nat.beq k 0)|.s _=>some (Nat.beq k 1)|.t _=>some (Nat.beq k 2)|.r j=>bd (T.get j) λ o=>cj (rt o) (some<|Nat.beq k 3)|_=>none
noncomputable def ru(o:AO):Option (Nat×Nat):=match o with|.inst c d=>some (c,d)|_=>none
noncomputable def Lr(o:AO):Option (List<|Nat×AV):=match o with|.ns es=>some es|_=>none
def nU(st:St)(d:Nat):Option (List<|Nat×AV):=bd (st.T.get d) Lr
def ownOf(st:St)(j:Nat):Option (Nat×Nat):=bd (st.T.get j) ru
def UT(X:Env)(T:TR AO)(v:AV)(C:Nat):Option Bool:=match v with|.r j=>bd (T.get j) λ o=>bd (ru o) λ p=>bd (T.get p.2) λ o=>bd (Lr o) λ _=>bd (lk p.1 X.sub) λ l=>some (l.any<|Nat.beq C)|.none=>some false|.i _ _=>some false|.s _=>some false|.t _=>some false|_=>none
def zp(X:Env)(T:TR AO)(v:AV)(c:AV):Option Bool:=match c with|.g C=>bd (lk C X.sub) λ _=>UT X T v C|.ty k=>cj (Nat.blt k 4) (VA T v k)|_=>none
abbrev Cs:=List<|Nat×Nat
inductive It where
 |vals (xs:List AV)
 |lst (j k:Nat)
 |mr (k n:Nat)
def pU(T:TR AO)(v:AV):Option It:=pt (C4 v λ xs=>some<|.vals xs)<|uB v λ j=>bd (dE T j) λ _=>some<|.lst j 0
def kw(T:TR AO)(it:It):Option (Option<|AV×It):=match it with
 |.vals xs=>match xs with|[]=>some none|x::xs=>some (some (x,.vals xs))
 |.lst j k=>bd (dE T j) λ xs=>match QM xs k with|some x=>some (some (x,.lst j<|Nat.succ k))|none=>some none
 |.mr k n=>match Nat.blt k n with|true=>some (some (.i 0<|Int.ofNat k,.mr (Nat.succ k) n))|false=>some none
structure Ih where
 E:Nat->Cs->IE->St->Option (AV×St)
 Es:Nat->Cs->List IE->St->Option (List AV×St)
 C:Nat->List AV->Cs->St->Option (AV×St)
 S:Nat->Cs->List IS->St->Option (Fl×St)
 W:Nat->Cs->IE->List IS->St->Option (Fl×St)
 F:Nat->Cs->TG->It->List IS->St->Option (Fl×St)
 K:Nat->Cs->IE->TG->List IE->It->St->Option (List AV×St)
section
variable(X:Env)
noncomputable def rK(o:AO):Option (Option AV):=match o with|.cell v=>some v|_=>none
def lX(L x:Nat)(v:AV)(st:St):Option St:=bd (nU st L) λ es=>some<|im L (.ns<|dL x v es) st
def wU(cs:Cs)(x:Nat)(v:AV)(st:St):Option St:=bd (lk x cs) λ c=>bd (st.T.get c) λ o=>bd (rK o) λ _=>some<|im c (.cell<|some v) st
def U4(L:Nat)(cs:Cs)(t:TG)(v:AV)(st:St):Option St:=match t with|.l x=>lX L x v st|.b9 x=>wU cs x v st|_=>none
noncomputable def zX(L:Nat)(cs:Cs):List TG->List AV->St->Option St
 |[],vs,st=>match vs with|[]=>some st|_::_=>none
 |t::ts,vs,st=>uC vs λ v vs=>bd (U4 L cs t v st) λ st=>zX L cs ts vs st
def jq(L:Nat)(cs:Cs)(t:TG)(v:AV)(st:St):Option St:=match t with|.l x=>lX L x v st|.b9 x=>wU cs x v st|.tup ts=>C4 v λ vs=>zX L cs ts vs st|.bad=>none
def yh(v:AV)(x:Nat)(st:St):Option AV:=uB v λ j=>bd (ownOf st j) λ p=>bd (nU st p.2) λ es=>lk x es
def gj(v:AV)(x:Nat)(y:AV)(st:St):Option St:=uB v λ j=>bd (ownOf st j) λ p=>bd (nU st p.2) λ es=>cj (Nat.ble (len es) 500)<|some<|im p.2 (.ns<|dL x y es) st
def mH(xs:List AV)(k:AV):Option Nat:=ky k λ v o=>cj (Nat.beq v 0)<|idx (len xs) o
def KP(j:Nat):Option (List<|AV×AV):=lk j X.sd
def vX(o:AO)(k:AV):Option (Option AV):=match o with|.dict es=>AT X k es|.map es=>Dm X k es|_=>none
def yg(v k:AV)(st:St):Option AV:=match v with|.t xs=>bd (mH xs k) λ n=>QM xs n|.r j=>bd (st.T.get j) λ o=>pt (bd (zj o) λ xs=>bd (mH xs k) λ n=>QM xs n) (bd (vX X o k) λ r=>r)|.g j=>bd (KP X j) λ es=>bd (AT X k es) λ r=>r|_=>none
def KN(o:AO)(k y:AV):Option AO:=match o with|.list xs=>bd (mH xs k) λ n=>bd (xz y n xs) λ xs'=>some (.list xs')|.dict es=>cj (Nat.ble (len es) 500) (bd (NE X k y es) λ f8=>some<|.dict f8)|.map es=>bd (Di X k y es) λ f8=>some (.map f8)|_=>none
def Ap(v k y:AV)(st:St):Option St:=uB v λ j=>bd (st.T.get j) λ o=>bd (KN X o k y) λ o'=>some<|im j o' st
def hV(a c:AV):Option Bool:=ky a λ v o=>ky c λ w p=>TW X v o w p
def G_(a c:AV)(st:St):Option Bool:=match c with|.t xs=>isIn X a xs|.r j=>bd (st.T.get j) λ o=>pt (bd (zj o) λ xs=>isIn X a xs) (bd (vX X o a) λ r=>some r.isSome)|.g j=>bd (KP X j) λ es=>bd (AT X a es) λ r=>some r.isSome|_=>none
def neg(x:Option Bool):Option Bool:=bd x λ y=>some<|!y
def Im(op:WO)(a c:AV)(st:St):Option Bool:=match op with|.eq=>Tr X st.T a c|.ne=>neg (Tr X st.T a c)|.is=>Za a c|.gI=>neg (Za a c)|.lt=>hV X a c|.gt=>hV X c a|.isin=>G_ X a c st|.fQ=>neg<|G_ X a c st
def wR(as:List AV)(st:St):Option (AV×St):=wE as λ v=>pt (C4 v λ xs=>cj (Nat.ble (len xs) 4000)<|some (.i 0<|Int.ofNat<|len xs,st))<|uB v λ j=>bd (st.T.get j) λ o=>bd (Dw o) λ n=>some (n,st)
noncomputable def TD(v:AV)(T:TR AO):List AV->Option Bool
 |[]=>some false|c::cs=>bd (zp X T v c) λ x=>bd (TD v T cs) λ y=>some<|x||y
def NJ(as:List AV)(st:St):Option (AV×St):=Ai as λ v c=>bd (pt (C4 c λ cs=>uC cs λ _ _=>TD X v st.T cs)<|zp X st.T v c) λ x=>some (.b x,st)
noncomputable def il(X:Env):List AV->Option (List AV)
 |[]=>some []|a::l=>ky a λ _ _=>bd (il X l) λ ks=>T0 X a ks
def u9(X:Env)(o:AO):Option (List AV):=match o with|.list xs=>cj (Nat.ble (len xs) 60) (il X xs)|.dict es=>cj (Nat.ble (len es) 60) (il X<|es.map (·.1))|_=>none
def iG(as:List AV)(st:St):Option (AV×St):=wE as λ v=>uB v λ j=>bd (st.T.get j) λ o=>bd (u9 X o) λ ys=>new (.list ys) st
def zT(as:List AV)(st:St):Option (AV×St):=Ai as λ a c=>bd (hV X a c) λ x=>match x with|true=>some (c,st)|false=>some (a,st)
def mi(k:Nat)(as:List AV)(st:St):Option (AV×St):=pt (cj (Nat.beq k 0)<|wR as st)<|pt (cj (Nat.beq k 1)<|NJ X as st)<|pt (cj (Nat.beq k 2)<|iG X as st)<|cj (Nat.beq k 6)<|zT X as st
def rz(k:Nat)(as:List AV)(st:St):Option (AV×St):=cj (Nat.beq k 2)<|wE as λ v=>uB v λ j=>bd (dE st.T j) λ xs=>some (.t xs,st)
def zg(j:Nat)(o:AO)(as:List AV)(st:St):Option (AV×St):=wE as λ v=>bd (Fd [v] o) λ o=>some (.none,im j o st)
def Hh(j:Nat)(o:AO)(as:List AV)(st:St):Option (AV×St):=wE as λ v=>uB v λ k=>bd (dE st.T k) λ ys=>cj (!Nat.beq j k)<|bd (Fd ys o) λ o=>some (.none,im j o st)
def Yj(j:Nat)(o:AO)(as:List AV)(st:St):Option (AV×St):=match as with|[]=>bd (jL o) λ p=>some (p.1,im j p.2 st)|_::_=>wE as λ k=>ky k λ v z=>cj (Nat.beq v 0)<|pt (cj (wf z 0)<|bd (lu o) λ p=>some (p.1,im j p.2 st))<|cj (wf z (-1))<|bd (jL o) λ p=>some (p.1,im j p.2 st)
def Ha(j m:Nat)(as:List AV)(st:St):Option (AV×St):=bd (st.T.get j) λ o=>pt (cj (Nat.beq m 100)<|zg j o as st)<|pt (cj (Nat.beq m 102)<|Yj j o as st)<|cj (Nat.beq m 101)<|Hh j o as st
def OC(j m:Nat)(as:List AV)(st:St):Option (AV×St):=cj (Nat.beq m 102) (Ai as λ k d=>bd (st.T.get j) λ o=>ky k λ _ _=>bd (vX X o k) λ r=>match r with|none=>some (d,st)|some _=>none)
def Rb(j m:Nat)(as:List AV)(st:St):Option (AV×St):=cj (Nat.beq m 103) (Ai as λ k d=>bd (KP X j) λ es=>w_ k λ _=>bd (AT X k es) λ r=>match r with|none=>some (d,st)|some v=>some (v,st))
def V7(k m:Nat)(as:List AV)(st:St):Option (AV×St):=cj (Nat.beq m 104)<|wE as λ p=>w_ p λ p=>bd (X.Um.find? λ q=>Nat.beq q.1 k&&Nat.beq q.2.1 p) λ z=>some (.i 0 z.2.2,st)
def fill(ps:List Nat)(dv as:List AV):List AV:=app as<|dr (len dv-(len ps-len as)) dv
noncomputable def fw:List Nat->St->Cs->Cs×St
 |[],st,acc=>(acc,st)|x::xs,st,acc=>fw xs (a_ (.cell none) st) ((x,st.nx)::acc)
noncomputable def cL(L:Nat)(cells:List Nat)(cs:Cs):List (Nat×AV)->St->Option St
 |[],st=>some st|p::r,st=>match cells.any (Nat.beq p.1)with
  |true=>bd (wU cs p.1 p.2 st) λ st=>cL L cells cs r st|false=>bd (lX L p.1 p.2 st) λ st=>cL L cells cs r st
section
variable(ih:Ih)(L:Nat)(cs:Cs)
def TJ(x:Nat)(st:St):Option (AV×St):=bd (nU st L) λ es=>bd (lk x es) λ v=>some (v,st)
def Ic(x:Nat)(st:St):Option (AV×St):=bd (lk x cs) λ c=>bd (st.T.get c) λ o=>bd (rK o) λ u=>bd u λ v=>some (v,st)
def MS(es:List IE)(st:St):Option (AV×St):=bF (ih.Es L cs es st) λ vs st=>some (.t vs,st)
def Op(es:List IE)(st:St):Option (AV×St):=bF (ih.Es L cs es st) λ vs st=>new (.list vs) st
noncomputable def pureE(e:IE):Option AV:=match e with|.c v=>some v|.cJ _ v=>some v|_=>none
noncomputable def sq:List IE->List IE->Option (List<|AV×AV)
 |[],l=>match l with|[]=>some []|_::_=>none
 |a::k,l=>uC l λ b l=>bd (pureE a) λ x=>bd (pureE b) λ y=>bd (sq k l) λ r=>some ((x,y)::r)
noncomputable def v7:List (AV×AV)->Option (List Nat)
 |[]=>some []|p::l=>w_ p.1 λ k=>bd (v7 l) λ ks=>some (k::ks)
noncomputable def ri:List Nat->Bool
 |[]=>true|a::l=> !l.any (Nat.beq a)&&ri l
def JO(ks vs:List IE)(st:St):Option (AV×St):=bd (sq ks vs) λ es=>bd (v7 es) λ B=>cj (Nat.ble (len es) 15)<|cj (ri B)<|new (.dict es) st
def MX(e:IE)(x:Nat)(st:St):Option (AV×St):=bF (ih.E L cs e st) λ v st=>bd (yh v x st) λ y=>some (y,st)
def MW(op:BY)(l r:IE)(st:St):Option (AV×St):=bF (ih.E L cs l st) λ a st=>bF (ih.E L cs r st) λ c st=>NI X op a c st
def TH(e:IE)(st:St):Option (AV×St):=bF (ih.E L cs e st) λ v st=>ky v λ v o=>cj (Nat.beq v 0)<|some (.i 0 (-o),st)
def MU(e:IE)(st:St):Option (AV×St):=bF (ih.E L cs e st) λ v st=>bd (bf st.T v) λ x=>some (.b<|!x,st)
def TM(es:List IE)(st:St):Option (AV×St):=match es with
 |[]=>none
 |e::es=>match es with
  |[]=>ih.E L cs e st
  |_::_=>bF (ih.E L cs e st) λ v st=>bd (bf st.T v) λ x=>match x with|true=>ih.E L cs (.and es) st|false=>some (v,st)
def eOr(es:List IE)(st:St):Option (AV×St):=match es with
 |[]=>none
 |e::es=>match es with
  |[]=>ih.E L cs e st
  |_::_=>bF (ih.E L cs e st) λ v st=>bd (bf st.T v) λ x=>match x with|false=>ih.E L cs (.or es) st|true=>some (v,st)
def MV(op:WO)(l r:IE)(st:St):Option (AV×St):=bF (ih.E L cs l st) λ a st=>bF (ih.E L cs r st) λ c st=>bd (Im X op a c st) λ x=>some (.b x,st)
def TK(t a c:IE)(st:St):Option (AV×St):=bF (ih.E L cs t st) λ v st=>bd (bf st.T v) λ x=>match x with|true=>ih.E L cs a st|false=>ih.E L cs c st
def G'(a:Nat)(st:St):St:=a_ (.inst a st.nx)<|a_ (.ns []) st
def Kn(a:Nat)(cl:Cl)(as:List AV)(st:St):Option (AV×St):=bd cl.init λ fa=>bF (ih.C fa (.r (Nat.succ st.nx)::as) []<|G' a st) λ v ab=>Qn v<|some (.r<|Nat.succ st.nx,ab)
def Ca(a:Nat)(as:List AV)(st:St):Option (AV×St):=match X.cl.get a with|none=>cj (Nat.blt a 1358) (ih.C a as [] st)|some cl=>Kn ih a cl as st
noncomputable def Z2(o:AO):Option Nat:=match o with|.ca k=>some k|_=>none
noncomputable def abp{β:Type}(o:AO)(f:Nat->Cs->Nat->Nat->Option β):Option β:=match o with|.ch fa cs c k=>f fa cs c k|_=>none
def Pb(j:Nat)(as:List AV)(st:St):Option (AV×St):=bd (st.T.get j) λ o=>abp o λ fa cs c k=>bd (st.T.get c) λ o=>bd (Z2 o) λ B=>cj (Nat.beq B k)<|ih.C fa as cs st
def mZ(f:AV)(as:List AV)(st:St):Option (AV×St):=match f with|.g a=>Ca X ih a as st|.bi k=>mi X k as st|.ty k=>rz k as st|.r j=>Pb ih j as st|_=>none
def zN(f:IE)(as:List IE)(st:St):Option (AV×St):=bF (ih.E L cs f st) λ f st=>bF (ih.Es L cs as st) λ as st=>mZ X ih f as st
def zf(o:AV)(C d x:Nat)(as:List IE)(st:St):Option (AV×St):=bd (nU st d) λ es=>match lk x es with|some f=>cj (X.an x) (bF (ih.Es L cs as st) λ as st=>mZ X ih f as st)|none=>bd (X.cl.get C) λ cl=>bd (lk x cl.meths) λ fa=>bF (ih.Es L cs as st) λ as st=>ih.C fa (o::as) [] st
def Ds(o:AV)(j x:Nat)(as:List IE)(st:St):Option (AV×St):=bd (st.T.get j) λ ob=>pt (bd (ru ob) λ p=>zf X ih L cs o p.1 p.2 x as st)
 (pt (cj (rt ob)<|bF (ih.Es L cs as st) λ as st=>Ha j (X.bn x) as st)<|cj (Js ob)<|bF (ih.Es L cs as st) λ as st=>OC X j (X.bn x) as st)
def Yk(C x:Nat)(as:List IE)(st:St):Option (AV×St):=match X.cl.get C with|some cl=>bd (lk x cl.meths) λ fa=>bF (ih.Es L cs as st) λ as st=>ih.C fa as [] st|none=>bF (ih.Es L cs as st) λ as st=>Rb X C (X.bn x) as st
def mQ(o:IE)(x:Nat)(as:List IE)(st:St):Option (AV×St):=bF (ih.E L cs o st) λ o st=>match o with|.r j=>Ds X ih L cs o j x as st|.g C=>Yk X ih L cs C x as st|.s k=>bF (ih.Es L cs as st) λ as st=>V7 X k (X.bn x) as st|_=>none
def MT(e k:IE)(st:St):Option (AV×St):=bF (ih.E L cs e st) λ v st=>bF (ih.E L cs k st) λ k st=>bd (yg X v k st) λ y=>some (y,st)
def oE(e:Option IE)(st:St):Option (Option AV×St):=match e with|none=>some (none,st)|some e=>bF (ih.E L cs e st) λ v st=>some (some v,st)
def xq(v:AV)(lo hi:Option AV)(st:St):Option (AV×St):=uB v λ j=>bd (dE st.T j) λ xs=>bd (TE xs lo hi) λ ys=>new (.list ys) st
def Ib(e:IE)(lo hi:Option IE)(st:St):Option (AV×St):=bF (ih.E L cs e st) λ v st=>
 bF (oE ih L cs lo st) λ lo st=>bF (oE ih L cs hi st) λ hi st=>xq v lo hi st
def bK(L:Nat)(st:St):St:=⟨st.T.del L,st.nx⟩
def zJ(L:Nat)(ys:List AV)(st:St):Option (AV×St):=bd (nU st L) λ _=>cj (Nat.ble (len ys) 4000)<|new (.list ys)<|bK L st
def o7(it:IE):Option IE:=match it with
 |.call f as=>match f with
  |.cJ _ v=>match v with|.ty k=>cj (Nat.beq k 5) (uC as λ e l=>match l with|[]=>some e|_::_=>none)|_=>none
  |_=>none
 |_=>none
def Av(v:AV):Option It:=VO v λ n=>cj (Nat.ble n 100000)<|some<|.mr 0 n
def Jp(it:IE)(st:St):Option (It×St):=match o7 it with|some e=>bF (ih.E L cs e st) λ v st=>bd (Av v) λ i=>some (i,st)|none=>bF (ih.E L cs it st) λ v st=>bd (pU st.T v) λ xs=>some (xs,st)
def rG(elt:IE)(t:TG)(it:IE)(ifs:List IE)(fr:List Nat)(st:St):Option (AV×St):=bF (Jp ih L cs it st) λ xs st=>
 cj (fr.all λ x=>(lk x cs).isSome) (bF (ih.K st.nx (cs.filter λ p=>fr.any<|Nat.beq p.1) elt t ifs xs<|a_ (.ns []) st)<|zJ st.nx)
def ni(e:IE)(st:St):Option (AV×St):=match e with|.c v=>some (v,st)|.tup es=>MS ih L cs es st|.list es=>Op ih L cs es st|.dict ks vs=>JO ks vs st|.l x=>TJ L x st|.b9 x=>Ic cs x st|.cJ _ v=>some (v,st)|.dg e x=>MX ih L cs e x st|.bin op l r=>MW X ih L cs op l r st|.neg e=>TH ih L cs e st|.not e=>MU ih L cs e st|.and es=>TM ih L cs es st|.or es=>eOr ih L cs es st|.cmp op l r=>MV X ih L cs op l r st|.ite t a c=>TK ih L cs t a c st|.call f as=>zN X ih L cs f as st|.bT o x as=>mQ X ih L cs o x as st|.sub e k=>MT X ih L cs e k st|.oR e lo hi=>Ib ih L cs e lo hi st|.comp elt t it ifs fr=>rG ih L cs elt t it ifs fr st|.bad _=>none
def sa(es:List IE)(st:St):Option (List AV×St):=match es with|[]=>some ([],st)|e::es=>bF (ih.E L cs e st) λ v st=>bF (ih.Es L cs es st) λ vs st=>some (v::vs,st)
noncomputable def kc(f:Fl)(st:St):Option (AV×St):=match f with|.ret v=>some (v,st)|.d6=>some (.none,st)|.cont=>none
def Ct(fa:Nat)(as:List AV)(cs:Cs)(st:St):Option (AV×St):=bd (X.fn.get fa) λ f=>bd (FM f.ps<|fill f.ps f.dv as) λ bs=>
 match fw f.cells (a_ (.ns []) st) cs with|(cs',st2)=>bd (cL st.nx f.cells cs' bs st2) λ st2=>bF (ih.S st.nx cs' f.body st2) kc
def KU(t:TG)(e:IE)(st:St):Option (Fl×St):=bF (ih.E L cs e st) λ v st=>bd (jq L cs t v st) λ st=>some (.d6,st)
def CI(o:IE)(x:Nat)(e:IE)(st:St):Option (Fl×St):=bF (ih.E L cs e st) λ v st=>bF (ih.E L cs o st) λ o st=>bd (gj o x v st) λ st=>some (.d6,st)
def CH(o k e:IE)(st:St):Option (Fl×St):=bF (ih.E L cs e st) λ v st=>bF (ih.E L cs o st) λ o st=>bF (ih.E L cs k st) λ k st=>bd (Ap X o k v st) λ st=>some (.d6,st)
def RQ(v o:AV)(st:St):Option (Fl×St):=uB o λ j=>uB v λ k=>bd (st.T.get j) λ ob=>bd (dE st.T k) λ ys=>cj (!Nat.beq j k)<|bd (K9 ys ob) λ ob=>some (.d6,im j ob st)
def Jc(o e:IE)(st:St):Option (Fl×St):=bF (ih.E L cs e st) λ v st=>bF (ih.E L cs o st) λ o st=>RQ v o st
def Jb(x:Nat)(op:BY)(e:IE)(st:St):Option (Fl×St):=bF (Ic cs x st) λ a st=>bF (ih.E L cs e st) λ c st=>bd (E8 op a c) λ v=>
 bd (wU cs x v st) λ st=>some (.d6,st)
def CG(o:IE)(x:Nat)(op:BY)(e:IE)(st:St):Option (Fl×St):=bF (ih.E L cs o st) λ o st=>bd (yh o x st) λ a=>bF (ih.E L cs e st) λ c st=>
 bd (E8 op a c) λ v=>bd (gj o x v st) λ st=>some (.d6,st)
def Ja(o k:IE)(op:BY)(e:IE)(st:St):Option (Fl×St):=bF (ih.E L cs o st) λ o st=>bF (ih.E L cs k st) λ k st=>bd (yg X o k st) λ a=>
 bF (ih.E L cs e st) λ c st=>bd (E8 op a c) λ v=>bd (Ap X o k v st) λ st=>some (.d6,st)
def Pu(e:Option IE)(st:St):Option (Fl×St):=match e with|none=>some (.ret .none,st)|some e=>bF (ih.E L cs e st) λ v st=>some (.ret v,st)
def Xi(t:IE)(a c:List IS)(st:St):Option (Fl×St):=bF (ih.E L cs t st) λ v st=>bd (bf st.T v) λ x=>match x with|true=>ih.S L cs a st|false=>ih.S L cs c st
def Xj(t:TG)(e:IE)(b:List IS)(st:St):Option (Fl×St):=bF (ih.E L cs e st) λ v st=>bd (pU st.T v) λ xs=>ih.F L cs t xs b st
def Pw(t:TG)(e:IE)(b:List IS)(st:St):Option (Fl×St):=bF (ih.E L cs e st) λ v st=>bd (Av v) λ i=>ih.F L cs t i b st
noncomputable def zD(B f:Fl)(st:St):Option (Fl×St):=match f with|.d6=>some (B,st)|_=>none
def y5(b f:List IS)(st:St):Option (Fl×St):=bF (ih.S L cs b st) λ B st=>bF (ih.S L cs f st) λ g st=>zD B g st
def uX(s:IS)(st:St):Option (Fl×St):=match s with|.asg t e=>KU ih L cs t e st|.n_ o x e=>CI ih L cs o x e st|.mR o k e=>CH X ih L cs o k e st|.Iv o e=>Jc ih L cs o e st|.Iu x op e=>Jb ih L cs x op e st|.n7 o x op e=>CG ih L cs o x op e st|.Ir o k op e=>Ja X ih L cs o k op e st|.ex e=>bF (ih.E L cs e st) λ _ st=>some (.d6,st)|.ret e=>Pu ih L cs e st|.cont=>some (.cont,st)|.iff t a c=>Xi ih L cs t a c st|.Ga t b=>ih.W L cs t b st|.fr t e b=>Xj ih L cs t e b st|.BV t e b=>Pw ih L cs t e b st|.Cg b f=>y5 ih L cs b f st|.VB b f=>y5 ih L cs b f st|.Gn b=>ih.S L cs b st|.iq=>none|.WI _ _=>none|.bad _=>none
noncomputable def xD(ss:List IS)(f:Fl)(st:St):Option (Fl×St):=match f with|.d6=>ih.S L cs ss st|.cont=>some (.cont,st)|.ret v=>some (.ret v,st)
def IZ(ss:List IS)(st:St):Option (Fl×St):=match ss with|[]=>some (.d6,st)|s::ss=>bF (uX X ih L cs s st)<|xD ih L cs ss
noncomputable def X2(t:IE)(b:List IS)(f:Fl)(st:St):Option (Fl×St):=match f with|.d6=>ih.W L cs t b st|.cont=>ih.W L cs t b st|.ret v=>some (.ret v,st)
def yU(t:IE)(b:List IS)(st:St):Option (Fl×St):=bF (ih.E L cs t st) λ v st=>bd (bf st.T v) λ x=>match x with|true=>bF (ih.S L cs b st) (X2 ih L cs t b)|false=>some (.d6,st)
noncomputable def QB(t:TG)(xs:It)(b:List IS)(f:Fl)(st:St):Option (Fl×St):=match f with|.d6=>ih.F L cs t xs b st|.cont=>ih.F L cs t xs b st|.ret v=>some (.ret v,st)
def yV(t:TG)(xs:It)(b:List IS)(st:St):Option (Fl×St):=bd (kw st.T xs) λ r=>match r with|none=>some (.d6,st)|some p=>bd (jq L cs t p.1 st) λ st=>bF (ih.S L cs b st)<|QB ih L cs t p.2 b
def rH(ifs:List IE)(st:St):Option (Bool×St):=match ifs with
 |[]=>some (true,st)
 |e::r=>match r with|[]=>bF (ih.E L cs e st) λ v st=>bd (bf st.T v) λ y=>some (y,st)|_::_=>none
def stepK(elt:IE)(t:TG)(ifs:List IE)(xs:It)(st:St):Option (List AV×St):=bd (kw st.T xs) λ r=>match r with
 |none=>some ([],st)
 |some p=>bd (jq L cs t p.1 st) λ st=>bF (rH ih L cs ifs st) λ y st=>match y with|true=>bF (ih.E L cs elt st) λ v st=>bF (ih.K L cs elt t ifs p.2 st) λ vs st=>some (v::vs,st)|false=>ih.K L cs elt t ifs p.2 st
end
def KG(ih:Ih):Ih:=⟨ni X ih,sa ih,Ct X ih,IZ X ih,yU ih,yV ih,stepK ih⟩
noncomputable def X7:Ih:=⟨λ _ _ _ _=>none,λ _ _ _ _=>none,λ _ _ _ _=>none,λ _ _ _ _=>none,λ _ _ _ _ _=>none,λ _ _ _ _ _ _=>none,λ _ _ _ _ _ _ _=>none⟩
def ev(n:Nat):Ih:=Nat.rec (motive:=λ _=>Ih) X7 (λ _ ih=>KG X ih) n
end
structure Sy where
 nm:Nat->Str
 bn:Nat->String
 tn:Nat->String
 ic:Nat->Bool
 σ:Nat->Int
 τ:Nat->List Value
 ca:Nat->Obj
 ch:Nat->Nat->FuncData->Prop
inductive VR(Z:Sy)(G:Nat->Addr)(n:Nat)(h:Heap):AV->Value->Prop
 |none:VR Z G n h .none .none
 |b (x:Bool):VR Z G n h (.b x) (.bool x)
 |i (v:Nat) (o:Int) (t:Tok):VR Z G n h (.i v o) (.int (Z.σ v+o) t)
 |s (k:Nat) (t:Tok):VR Z G n h (.s k) (.str (Z.nm k) t)
 |r (a:Nat) (ha:a<n):VR Z G n h (.r a) (.ref<|G a)
 |g (a:Nat):VR Z G n h (.g a) (.ref a)
 |bi (k:Nat):VR Z G n h (.bi k) (.builtin<|Z.bn k)
 |ty (k:Nat):VR Z G n h (.ty k) (.type<|Z.tn k)
 |t (xs:List AV) (ws:List Value) (a:Addr) (o:Obj) (m:Nat) (ho:h.get? a=some o) (hc:o.cls=.type "tuple") (hd:o.data=.seq ws.toArray m)
   (hl:xs.length=ws.length) (hv:∀(i:Nat)(x:AV)(y:Value),xs[i]?=some x->ws[i]?=some y->VR Z G n h x y):VR Z G n h (.t xs)<|.ref a
def br(Z:Sy)(G:Nat->Addr)(n:Nat)(h:Heap)(xs:List AV)(ws:List Value):Prop:=
 xs.length=ws.length/\∀(i:Nat)(x:AV)(y:Value),xs[i]?=some x->ws[i]?=some y->VR Z G n h x y
def bh(h h':Heap):Prop:=∀a o ws m,h.get? a=some o->o.cls=.type "tuple" ->o.data=.seq ws m->h'.get? a=some o
variable{ay:Nat->Addr}{n':Nat}
theorem VR.keeps{Z}{G:Nat->Addr}{n:Nat}{h}{x}{v}(H:VR Z G n h x v)(O:n<=n')(B:∀i,i<n->ay i=G i)(J:bh h h'):VR Z ay n' h' x v:=by
 induction H with|none=>exact .none|b x=>exact .b x|i v o t=>exact .i v o t|s k t=>exact .s k t|r a ha=>rw[<-B a ha];exact .r a (ba ha O)|g a=>exact .g a|bi k=>exact .bi k|ty k=>exact .ty k|t xs ws a o m ho hc hd hl hv ih=>exact .t xs ws a o m (J a o _ _ ho hc hd) hc hd hl ih
variable{xs:List AV}{ws:List Value}
theorem br.keeps{Z}{G:Nat->Addr}{n:Nat}{h}(H:br Z G n h xs ws)(O:n<=n')(B:∀i,i<n->ay i=G i)(J:bh h h'):br Z ay n' h' xs ws:=
 ⟨H.1,λ i x y e f=>(H.2 i x y e f).keeps O B J⟩
theorem br.nil{Z}{G:Nat->Addr}{n:Nat}{h}:br Z G n h [] []:=⟨rfl,λ i x y e=>by exactλ h=>nomatch h⟩
theorem br.cons{Z}{G:Nat->Addr}{n:Nat}{h}{x}{v}(H:VR Z G n h x v)(T:br Z G n h xs ws):br Z G n h (x::xs) (v::ws):=by
 refine⟨by simp[T.1],λ i y z e f=>?_⟩;cases i with|zero=>simp at e f;subst e f;exact H|succ i=>exact T.2 i y z (by simpa using e) (by simpa using f)
theorem br.gf{Z}{G:Nat->Addr}{n:Nat}{h}{x}(H:br Z G n h (x::xs) ws):∃v xi,ws=v::xi/\VR Z G n h x v/\br Z G n h xs xi:=by
 cases ws with|nil=>have:=H.1;simp at this|cons v ws=>exact⟨v,ws,rfl,H.2 0 x v rfl rfl,by have:=H.1;simpa using this,λ i y z e f=>H.2 (i+1) y z (by assumption) (by assumption)⟩
theorem br.app{Z}{G:Nat->Addr}{n:Nat}{h}:∀{xs ys:List AV}{ws us:List Value},br Z G n h xs ws->br Z G n h ys us->br Z G n h (xs++ys) (ws++us)
 |[],_,ws,_,H,T=>by
  have:ws=[]:=by have:=H.1;clear H;cases ws<;>(first|rfl|exact if_pos (by assumption))
  subst this;exact T
 |x::xs,ys,ws,us,H,T=>by
  refine a5 H.gf λ v J B a b=>?_;subst B;exact br.cons a<|br.app b T
def rN(Z:Sy)(G:Nat->Addr)(n:Nat)(h:Heap)(es:List<|Nat×AV)(a:Addr):Prop:=
 ∃o dG ep,h.get? a=some o/\o.data=.dict dG ep/\StrKeys dG/\dG.size<=es.length/\
  ∀k,match lk k es with|some x=>∃v,nsFind dG (Z.nm k)=some v/\VR Z G n h x v|none=>nsFind dG (Z.nm k)=none
inductive F2{I β:Type}(R:I->β->Prop):List I->List β->Prop
 |nil:F2 R [] []
 |cons {a:I} {b:β} {l:List I} {k:List β}:R a b->F2 R l k->F2 R (a::l) (b::k)
variable{R:I->β->Prop}
theorem F2.mono{S:I->β->Prop}(h:∀a b,R a b->S a b){l:List I}{k:List β}(x:F2 R l k):F2 S l k:=by
 induction x with|nil=>exact .nil|cons a _ ih=>exact .cons (h _ _ a) ih
theorem F2.length{l:List I}{k:List β}(x:F2 R l k):l.length=k.length:=by
 induction x with|nil=>rfl|cons _ _ ih=>simp[ih]
def IK(Z:Sy)(k:AV)(i:Int):Prop:=∃v o,k=.i v o/\i=Z.σ v+o
def SK(Z:Sy)(k:AV)(x:Str):Prop:=∃j,k=.s j/\x=Z.nm j
def MK(Z:Sy)(k:AV)(y:Str×List Str):Prop:=∃(j:Nat)(B:List Nat),k=.t [.s j,.t<|B.map .s]/\y=(Z.nm j,B.map Z.nm)
def jv(Z:Sy)(G:Nat->Addr)(n:Nat)(h:Heap)(x:Option AV)(v:Option Value):Prop:=match x,v with|none,none=>True|some a,some b=>VR Z G n h a b|_,_=>False
noncomputable def iE{K:Type}(xs:List<|K×Addr×Value):List (K×Value):=xs.map λ q=>(q.1,q.2.2)
def mh{K:Type}(R:AV->K->Prop)(Z:Sy)(G:Nat->Addr)(n:Nat)(h:Heap)(es:List<|AV×AV)(kvs:List<|K×Value):Prop:=F2 (λ p q=>R p.1 q.1/\VR Z G n h p.2 q.2) es kvs
def BX{K:Type} [DecidableEq K](R:AV->K->Prop)(Z:Sy)(G:Nat->Addr)(n:Nat)(h:Heap)(es:List<|AV×Option AV)(kvs:List<|K×Value):Prop:=∀p∈es,∃i,R p.1 i/\jv Z G n h p.2 (valueAt kvs i)
inductive DR(Z:Sy)(w:World)(G:Nat->Addr)(n:Nat)(h:Heap)(es:List<|AV×AV)(a:Addr):Prop
 |int (kvs:List<|Int×Value):h.DictOf (intKind pw w) a kvs->mh (IK Z) Z G n h es kvs->DR Z w G n h es a
 |str (kvs:List<|Str×Value):h.DictOf (strKind pw w) a kvs->mh (SK Z) Z G n h es kvs->DR Z w G n h es a
 |mix (xs:List<|(Str×List Str)×Addr×Value):h.DictOfH (dT pw w) a xs->mh (MK Z) Z G n h es (iE xs)->DR Z w G n h es a
noncomputable def v4{I:Type}:Option I->Nat
 |none=>1|some _=>0
noncomputable def bY:List (AV×Option AV)->Nat
 |[]=>0|p::l=>v4 p.2+bY l
inductive MR(Z:Sy)(w:World)(G:Nat->Addr)(n:Nat)(h:Heap)(es:List<|AV×Option AV)(a:Addr):Prop
 |int (kvs:List<|Int×Value):h.DictOf (intKind pw w) a kvs->BX (IK Z) Z G n h es kvs->kvs.length+bY es<=1000->MR Z w G n h es a
 |mix (xs:List<|(Str×List Str)×Addr×Value):h.DictOfH (dT pw w) a xs->BX (MK Z) Z G n h es (iE xs)->xs.length+bY es<=1000->MR Z w G n h es a
def NT(o:Obj):Prop:=∀ws m,o.cls=.type "tuple" ->o.data=.seq ws m->False
def OR(Z:Sy)(w:World)(G:Nat->Addr)(n:Nat)(h:Heap)(a:Addr):AO->Prop
 |.inst c d=>d<n/\h.get? a=some (instObj c<|G d)/\Z.ic c=true|.ns es=>rN Z G n h es a|.list xs=>∃ws m,h.get? a=some (listOf ws.toArray m)/\br Z G n h xs ws/\xs.length<=10000|.seg p k lv q=>∃ps qs m,h.get? a=some (listOf (ps++Z.τ k++qs).toArray m)/\br Z G n h p ps/\br Z G n h q qs/\Z.σ lv=(Z.τ k).length/\p.length+q.length<=10000|.cell v=>∃o ov,h.get? a=some o/\o.cls=.type "cell" /\o.data=.cell ov/\(match v,ov with|none,none=>True|some x,some y=>VR Z G n h x y|_,_=>False)|.dict es=>DR Z w G n h es a|.map es=>MR Z w G n h es a|.ch f cs c k=>∃o fd,h.get? a=some o/\o.data=.func fd/\Z.ch f k fd/\c<n/\fd.code=.ref (G c)/\∀x i,lk x cs=some i->i<n/\fd.closure.lookup (Z.nm x)=some (G i)|.ca k=>h.get? a=some (Z.ca k)/\NT (Z.ca k)
namespace TR
theorem i8(a b:Nat):Nat.beq a b=decide (a=b):=BT.beq_eq a b
end TR
structure SR(Z:Sy)(w:World)(G:Nat->Addr)(st:St)(h:Heap):Prop where
 lt:∀i o,st.T.get i=some o->i<st.nx
 lo:∀i o,st.T.get i=some o->1358<=G i
 ob:∀i o,st.T.get i=some o->OR Z w G st.nx h (G i) o
 inj:∀i j o o',st.T.get i=some o->st.T.get j=some o'->G i=G j->i=j
 ready:Ready w h
structure Kp(G:Nat->Addr)(st:St)(h:Heap)(ay:Nat->Addr)(ab:St)(h':Heap):Prop where
 nx:st.nx<=ab.nx
 same:∀i,i<st.nx->ay i=G i
 mn:∀i o,st.T.get i=some o->∃o',ab.T.get i=some o'
 qW:∀i o,ab.T.get i=some o->i<st.nx->∃o',st.T.get i=some o'
 new:∀i o,ab.T.get i=some o->st.nx<=i->h.get? (ay i)=none
 fr:∀b o,h.get? b=some o->(∀i o,st.T.get i=some o->G i≠b)->h'.get? b=some o
theorem Kp.refl(G:Nat->Addr)(st:St)(h:Heap)(hl:∀i o,st.T.get i=some o->i<st.nx):Kp G st h G st h:=
 ⟨a9 _,λ _ _=>rfl,λ b o e=>⟨o,e⟩,λ i o e _=>⟨o,e⟩,λ i o e q=>absurd (hl i o e)<|fe q,λ _ _ e _=>e⟩
theorem DR.obj{Z}{w}{G:Nat->Addr}{n:Nat}{h:Heap}{es}{a:Addr}(H:DR Z w G n h es a):∃o dG ep,h.get? a=some o/\o.data=.dict dG ep:=by
 cases H with|int _ D=>exact cQ D λ o dG ep z _ q _=>⟨o,dG,ep,z,q⟩|str _ D=>exact cQ D λ o dG ep z _ q _=>⟨o,dG,ep,z,q⟩|mix _ D=>exact cQ D λ o dG ep z _ q _=>⟨o,dG,ep,z,q⟩
theorem MR.obj{Z}{w}{G:Nat->Addr}{n:Nat}{h:Heap}{es}{a:Addr}(H:MR Z w G n h es a):∃o dG ep,h.get? a=some o/\o.data=.dict dG ep:=by
 cases H with|int _ D=>exact cQ D λ o dG ep z _ q _=>⟨o,dG,ep,z,q⟩|mix _ D=>exact cQ D λ o dG ep z _ q _=>⟨o,dG,ep,z,q⟩
theorem DictOf.move{K:Type}[DecidableEq K]{w:World}{knd:KeyKind pw w K}{h:Heap}{a:Addr}{kvs:List<|K×Value}(H:h.DictOf knd a kvs)(B:h'.get? a=h.get? a):h'.DictOf knd a kvs:=by
 refine ji H λ o dG ep z r=>?_;exact⟨o,dG,ep,B.trans z,r⟩
theorem DictOfH.move{w}{h:Heap}{a:Addr}{xs}(H:h.DictOfH (dT pw w) a xs)(J:bh h h')(B:h'.get? a=h.get? a):h'.DictOfH (dT pw w) a xs:=by
 refine fZ H λ o dG ep z O r2 r3 r4 r5=>?_;exact⟨o,dG,ep,B.trans z,O,r2,r3,λ x hx=>fk.mn (r4 x hx) J,r5⟩
theorem jv.keeps{Z}{G:Nat->Addr}{n:Nat}{h}{x:Option AV}{v:Option Value}(H:jv Z G n h x v)(O:n<=n')(B:∀i,i<n->ay i=G i)(J:bh h h'):jv Z ay n' h' x v:=by
 cases x<;>cases v<;>first|exact H|exact VR.keeps H O B J
theorem DR.keeps{Z}{w}{G:Nat->Addr}{n:Nat}{h:Heap}{es}{a:Addr}(H:DR Z w G n h es a)(hn:n<=n')(J:∀i,i<n->ay i=G i)(B:bh h h')(O:h'.get? a=h.get? a):DR Z w ay n' h' es a:=by
 cases H with|int kvs d f=>exact .int kvs (DictOf.move d O) (f.mono λ _ _ z=>⟨z.1,z.2.keeps hn J B⟩)|str kvs d f=>exact .str kvs (DictOf.move d O) (f.mono λ _ _ z=>⟨z.1,z.2.keeps hn J B⟩)|mix xs d f=>exact .mix xs (DictOfH.move d B O)<|f.mono λ _ _ z=>⟨z.1,z.2.keeps hn J B⟩
theorem MR.keeps{Z}{w}{G:Nat->Addr}{n:Nat}{h:Heap}{es}{a:Addr}(H:MR Z w G n h es a)(hn:n<=n')(J:∀i,i<n->ay i=G i)(B:bh h h')(O:h'.get? a=h.get? a):MR Z w ay n' h' es a:=by
 cases H with|int kvs d f l=>exact .int kvs (DictOf.move d O) (λ p hp=>a8 (f p hp) λ i k v=>⟨i,k,v.keeps hn J B⟩) l|mix xs d f l=>exact .mix xs (DictOfH.move d B O) (λ p hp=>a8 (f p hp) λ i k v=>⟨i,k,v.keeps hn J B⟩) l
theorem OR.tup{Z}{w}{G:Nat->Addr}{n:Nat}{h:Heap}{a:Addr}{o}(H:OR Z w G n h a o){ob:Obj}{ws}{m:Nat}(e:h.get? a=some ob)(hc:ob.cls=.type "tuple")(hd:ob.data=.seq ws m):False:=by
 cases o with
 |inst c d=>refine ib H λ _ z _=>?_;rw[e]at z;clear e hc;obtain rfl:=sI z;cases hd
 |ns es=>refine gT H λ o' dG ep z q _=>?_;rw[e]at z;obtain rfl:=sI z;rw[hd]at q;cases q
 |list xs=>refine b8 H λ _ _ z _=>?_;rw[e]at z;clear hd;clear e;obtain rfl:=sI z;exact absurd (Value.type.inj hc) (by exactλ h=>nomatch h)
 |seg p k lv q=>refine ji H λ _ _ _ z _=>?_;rw[e]at z;clear hd;clear e;obtain rfl:=sI z;exact absurd (Value.type.inj hc) (by exactλ h=>nomatch h)
 |cell v=>refine cI H λ o' ov z q r _=>?_;rw[e]at z;clear q;obtain rfl:=sI z;rw[hd]at r;cases r
 |dict es=>refine ji (DR.obj H) λ o' dG ep z q=>?_;rw[e]at z;obtain rfl:=sI z;rw[hd]at q;cases q
 |map es=>refine ji (MR.obj H) λ o' dG ep z q=>?_;rw[e]at z;obtain rfl:=sI z;rw[hd]at q;cases q
 |ch f cs c k=>refine a5 H λ o' fd z q _=>?_;rw[e]at z;obtain rfl:=sI z;rw[hd]at q;cases q
 |ca k=>refine xA H λ z q=>?_;rw[e]at z;obtain rfl:=sI z;exact q _ _ hc hd
variable{st ab:St}
theorem Kp.tup{Z}{w}{G:Nat->Addr}{h}(S:SR Z w G st h)(K:Kp G st h ay ab h'):bh h h':=λ a o ws m e hc hd=>
 K.fr a o e λ i ob B z=>(S.ob i ob B).tup (z▸e) hc hd
theorem VR.kp{Z}{w}{G:Nat->Addr}{h}{x}{v}(H:VR Z G st.nx h x v)(S:SR Z w G st h)(K:Kp G st h ay ab h'):VR Z ay ab.nx h' x v:=H.keeps K.nx K.same<|K.tup S
theorem br.kp{Z}{w}{G:Nat->Addr}{h}{x}{v}(H:br Z G st.nx h x v)(S:SR Z w G st h)(K:Kp G st h ay ab h'):br Z ay ab.nx h' x v:=H.keeps K.nx K.same<|K.tup S
variable{es:List<|Nat×AV}
theorem rN.keeps{Z}{G:Nat->Addr}{n:Nat}{h:Heap}{a a':Addr}(H:rN Z G n h es a)(ha:a'=a)(hn:n<=n')(B:∀i,i<n->ay i=G i)(O:bh h h')(J:h'.get? a=h.get? a):rN Z ay n' h' es a':=by
 subst ha;refine bA H λ o dG ep e hd hs hz hm=>?_;refine⟨o,dG,ep,J.trans e,hd,hs,hz,λ k=>?_⟩;have:=hm k;split<;>rename_i q<;>rw[q]at this
 .refine a8 this λ v x y=>?_;exact⟨v,x,y.keeps hn B O⟩
 .exact this
theorem OR.keeps{Z}{w}{G:Nat->Addr}{n:Nat}{h:Heap}{a:Addr}{o}(H:OR Z w G n h a o)(J:n<=n')(B:∀i,i<n->ay i=G i)(hk:bh h h')(O:h'.get? a=h.get? a):OR Z w ay n' h' a o:=by
 cases o with
 |inst c d=>exact⟨ba H.1 J,by rw[B d H.1];exact O.trans H.2.1,H.2.2⟩|ns es=>exact rN.keeps H rfl J B hk O|list xs=>refine a5 H λ ws m e v l=>?_;exact⟨ws,m,O.trans e,v.keeps J B hk,l⟩|seg p k lv q=>refine cQ H λ ps qs m e v u l=>?_;exact⟨ps,qs,m,O.trans e,v.keeps J B hk,u.keeps J B hk,l⟩|cell v=>
  refine cI H λ o ov e hc hd hm=>?_;refine⟨o,ov,O.trans e,hc,hd,?_⟩;clear H hd;cases v<;>cases ov<;>first|trivial|exact VR.keeps hm J B hk|exact hm
 |dict es=>exact DR.keeps H J B hk O|map es=>exact MR.keeps H J B hk O|ch f cs c k=>
  refine gd H λ o fd e q r l d m=>?_;exact⟨o,fd,O.trans e,q,r,ba l J,by rw[B c l];exact d,λ x i z=>⟨ba (m x i z).1 J,by rw[B i (m x i z).1];exact(m x i z).2⟩⟩
 |ca k=>exact⟨O.trans H.1,H.2⟩
end fH.V
namespace fH
open PySem PySem.W PySem.Calls PyProof.Rows
theorem Fi(P:Params):(Fj P).all (λ p=>Nat.blt p.1 1358)=true:=by kernel_rfl
theorem Fm:BK.all (λ p=>Nat.blt p.1 1358)=true:=by kernel_rfl
theorem cK{a b:Nat}(h:Nat.blt a b=true):a<b:=dY h
theorem Ready.low{w:World}{h h':Heap}(x:Ready w h)(k:∀b o,b<1358->h.get? b=some o->h'.get? b=some o):Ready w h':=by
 refine⟨λ p hp=>k _ _ (cK<|bV (Fi w.params) p hp)<|x.pR p hp,λ p hp=>?_⟩;refine fU (x.codes p hp) λ c o vs t e g r=>?_;cases e;exact⟨_,o,vs,t,rfl,k _ _ (cK<|bV Fm p hp) g,r⟩
namespace V
section
variable{Z:Sy}{w:World}{G:Nat->Addr}{st:St}{h h':Heap}
theorem OR.live{n:Nat}{a:Addr}{o:AO}(H:OR Z w G n h a o):∃ob,h.get? a=some ob:=by
 cases o with|inst c d=>exact⟨_,H.2.1⟩|ns es=>refine ji H λ o' _ _ z _=>?_;exact⟨_,z⟩|list xs=>refine b8 H λ _ _ z _=>?_;exact⟨_,z⟩|seg p k lv q=>refine ji H λ _ _ _ z _=>?_;exact⟨_,z⟩|cell v=>refine b8 H λ o' _ z _=>?_;exact⟨_,z⟩|dict es=>refine ji (DR.obj H) λ _ _ _ z _=>?_;exact⟨_,z⟩|map es=>refine ji (MR.obj H) λ _ _ _ z _=>?_;exact⟨_,z⟩|ch f cs c k=>refine b8 H λ o' fd z q=>?_;exact⟨_,z⟩|ca k=>exact⟨_,H.1⟩
theorem Kp.trans{az aa O:Nat->Addr}{J ci bM:St}{iW gy iV:Heap}(x:Kp az J iW aa ci gy)(y:Kp aa ci gy O bM iV)(l₁:∀i o,J.T.get i=some o->i<J.nx)(e':SR Z w aa ci gy):Kp az J iW O bM iV:=by
 refine⟨ae x.nx y.nx,λ i hi=>(y.same i<|ba hi x.nx).trans<|x.same i hi,λ i o e=>let⟨o',B⟩:=x.mn i o e;y.mn i o' B,λ i o e hi=>?_,λ i o e hi=>?_,λ b o e q=>?_⟩
 .refine xE (y.qW i o e<|ba hi x.nx) λ o' B=>?_;exact x.qW i o' B hi
 .by_cases hj:i<ci.nx
  .refine xE (y.qW i o e hj) λ o' B=>?_;rw[y.same i hj];exact x.new i o' B hi
  .have z:=y.new i o e<|Nat.not_lt.mp hj;cases q:iW.get? (O i)with
   |none=>rfl|some o'=>
    have:∃VU,gy.get? (O i)=some VU:=by
     by_cases t:∃k ok,J.T.get k=some ok/\az k=O i
     .refine b8 t λ k ok hk hz=>?_;refine xE (x.mn k ok hk) λ o2 h2=>?_;have:=(e'.ob k o2 h2).live;rwa [x.same k<|l₁ k ok hk,hz]at this
     .exact⟨o',x.fr _ _ q λ k ok hk hz=>t ⟨k,ok,hk,hz⟩⟩
    refine xE this λ VU WH=>?_;rw[z]at WH;exact nn WH
 .refine y.fr b o (x.fr b o e q) λ i o' B z=>?_;by_cases hi:i<J.nx
  .refine xE (x.qW i o' B hi) λ VU WH=>?_;exact q i VU WH ((x.same i hi).symm.trans z)
  .have:=x.new i o' B<|Nat.not_lt.mp hi;rw[z,e]at this;exact ns this
theorem SR.im(S:SR Z w G st h){i:Nat}{o o':AO}(e:st.T.get i=some o)(hs:Heap.SameBut (G i) h h')(H:bh h h'->OR Z w G st.nx h' (G i) o'):
  SR Z w G (V.im i o' st) h'/\Kp G st h G (V.im i o' st) h':=by
 have hk:bh h h':=λ a ob ws m ea hc hd=>(hs.2 a λ z=>(S.ob i o e).tup (z▸ea) hc hd).trans ea;have key:∀j,(V.im i o' st).T.get j=if j=i then some o' else st.T.get j:=λ j=>TR.bu o' st.T i j
 refine⟨⟨λ j x B=>?_,λ j x B=>?_,λ j x B=>?_,λ j k x y B ek q=>?_,?_⟩,⟨a9 _,λ _ _=>rfl,λ j x B=>?_,λ j x B J=>?_,λ j x B J=>?_,λ b ob O q=>?_⟩⟩
 .rw[key]at B;by_cases J:j=i
  .subst J;exact S.lt _ _ e
  .rw[if_neg J]at B;exact S.lt _ _ B
 .rw[key]at B;by_cases J:j=i
  .subst J;exact S.lo _ _ e
  .rw[if_neg J]at B;exact S.lo _ _ B
 .rw[key]at B;by_cases J:j=i
  .subst J;rw[if_pos rfl]at B;obtain rfl:=sI B;exact H hk
  .rw[if_neg J]at B;exact(S.ob j x B).keeps (a9 _) (λ _ _=>rfl) hk (hs.2 _ λ z=>J<|S.inj j i x o B e z)
 .rw[key]at B ek;have ex:∃x',st.T.get j=some x':=by by_cases J:j=i;exact⟨o,J▸e⟩;rw[if_neg J]at B;exact⟨x,B⟩
  have ey:∃y',st.T.get k=some y':=by by_cases J:k=i;exact⟨o,J▸e⟩;rw[if_neg J]at ek;exact⟨y,ek⟩
  refine xE ex λ x' ex=>?_;refine xE ey λ y' ey=>?_;exact S.inj j k x' y' ex ey q
 .exact S.ready.low λ b ob hb O=>(hs.2 b λ z=>absurd (S.lo i o e)<|Nat.not_le.mpr<|z▸hb).trans O
 .rw[key];by_cases J:j=i
  .exact⟨o',if_pos J⟩
  .exact⟨x,by rw[if_neg J];exact B⟩
 .rw[key]at B;by_cases J:j=i
  .exact⟨o,J▸e⟩
  .rw[if_neg J]at B;exact⟨x,B⟩
 .rw[key]at B;by_cases hi:j=i
  .subst hi;exact absurd (S.lt _ _ e) (fe J)
  .rw[if_neg hi]at B;exact absurd (S.lt _ _ B) (fe J)
 .exact(hs.2 b λ z=>q i o e z.symm).trans O
theorem SR.more(S:SR Z w G st h)(B:∀b o,h.get? b=some o->h'.get? b=some o):SR Z w G st h'/\Kp G st h G st h':=by
 refine⟨⟨S.lt,S.lo,λ i o e=>?_,S.inj,S.ready.keeps B⟩,⟨a9 _,λ _ _=>rfl,λ i o e=>⟨o,e⟩,λ i o e _=>⟨o,e⟩,λ i o e q=>absurd (S.lt i o e)<|fe q,λ b o e _=>B b o e⟩⟩;have H:=S.ob i o e;refine xE H.live λ ob J=>?_;exact H.keeps (a9 _) (λ _ _=>rfl) (λ a x _ _ O _ _=>B a x O)<|(B _ _ J).trans J.symm
theorem SR.a_(S:SR Z w G st h){a:Addr}{o:AO}(ha:h.get? a=none)(h0:1358<=a)(hk:∀b o,h.get? b=some o->h'.get? b=some o)
  (H:∀ay,(∀i,i<st.nx->ay i=G i)->OR Z w ay (st.nx+1) h' a o):
  ∃ay,ay st.nx=a/\(∀i,i<st.nx->ay i=G i)/\SR Z w ay (V.a_ o st) h'/\Kp G st h ay (V.a_ o st) h':=by
 refine xA (S.more hk) λ S' _=>?_;have at':(λ i=>if i=st.nx then a else G i) st.nx=a:=by exact if_pos rfl
 have same:∀i,i<st.nx->(λ i=>if i=st.nx then a else G i) i=G i:=λ i hi=>by simp[Nat.ne_of_lt hi]
 generalize (λ i=>if i=st.nx then a else G i)=ay at at' same;have key:∀j,(V.a_ o st).T.get j=if j=st.nx then some o else st.T.get j:=λ j=>TR.bu o st.T st.nx j
 have nl:∀j x,j≠st.nx->(V.a_ o st).T.get j=some x->st.T.get j=some x:=λ j x B e=>by rw[key,if_neg B]at e;exact e
 have low:∀j x,st.T.get j=some x->G j≠a:=λ j x e z=>by
  refine xE ((S.ob j x e).live) λ ob eb=>?_;rw[z,ha]at eb;exact nn eb
 refine(iC ay at' same ⟨λ j x e=>?_,λ j x e=>?_,λ j x e=>?_,λ j k x y ej ek q=>?_,S'.ready⟩ ⟨bW _,same,λ j x e=>⟨x,by rw[key,if_neg<|Nat.ne_of_lt<|S.lt j x e];exact e⟩,λ j x e B=>⟨x,nl j x (dI B) e⟩,λ j x e B=>?_,λ b x e _=>hk b x e⟩)
 .by_cases B:j=st.nx
  .clear e;subst B;exact bZ _
  .exact fh (S.lt j x<|nl j x B e)
 .by_cases B:j=st.nx
  .subst B;rw[at'];exact h0
  .have J:=nl j x B e;rw[same j<|S.lt j x J];exact S.lo j x J
 .by_cases B:j=st.nx
  .subst B;rw[key,if_pos rfl]at e;obtain rfl:=sI e;rw[at'];exact H ay same
  .have J:=nl j x B e;rw[same j<|S.lt j x J];exact(S'.ob j x J).keeps (bW _) same (λ _ _ _ _ z _ _=>z) rfl
 .by_cases B:j=st.nx<;>by_cases O:k=st.nx
  .rw[B,O]
  .have J:=nl k y O ek;clear ej;subst B;rw[at',same k<|S.lt k y J]at q;exact absurd q.symm (low k y J)
  .have J:=nl j x B ej;clear ek;subst O;rw[at',same j<|S.lt j x J]at q;exact absurd q (low j x J)
  .have TC:=nl j x B ej;have TB:=nl k y O ek;rw[same j<|S.lt j x TC,same k<|S.lt k y TB]at q;exact S.inj j k x y TC TB q
 .have:j=st.nx:=by
   by_cases Jw:j=st.nx
   .exact Jw
   .exact absurd (S.lt j x<|nl j x Jw e) (fe B)
  clear B;subst this;rw[at'];exact ha
end
end V
end fH
namespace fH.V
open PySem PySem.W PySem.Calls PyProof.Rows
theorem aL{a b:Bool}(h:(a&&b)=true):a=true:=(fS h).1
theorem aR{a b:Bool}(h:(a&&b)=true):b=true:=(fS h).2
theorem BJ{a b:Bool}{P:Prop}(h:(a&&b)=true)(k:a=true->b=true->P):P:=k (aL h)<|aR h
theorem i_{a b c:Bool}{P:Prop}(h:(a&&b&&c)=true)(k:a=true->b=true->c=true->P):P:=BJ h λ h r=>BJ h λ a b=>k a b r
theorem oe{a b c d:Bool}{P:Prop}(h:(a&&b&&c&&d)=true)(k:a=true->b=true->c=true->d=true->P):P:=BJ h λ h r=>i_ h λ a b c=>k a b c r
theorem NK{a b c d e:Bool}{P:Prop}(h:(a&&b&&c&&d&&e)=true)(k:a=true->b=true->c=true->d=true->e=true->P):P:=BJ h λ h r=>oe h λ a b c d=>k a b c d r
theorem Fe{a b c d e f:Bool}{P:Prop}(h:(a&&b&&c&&d&&e&&f)=true)(k:a=true->b=true->c=true->d=true->e=true->f=true->P):P:=BJ h λ h r=>NK h λ a b c d e=>k a b c d e r
theorem U7{a b c d e f g i:Bool}{P:Prop}(h:(a&&b&&c&&d&&e&&f&&g&&i)=true)(k:a=true->b=true->c=true->d=true->e=true->f=true->g=true->i=true->P):P:=i_ h λ h u v=>Fe h λ a b c d e f=>k a b c d e f u v
theorem NH{a:Bool}(h:(!a)=true):a=false:=by cases a<;>first|rfl|exact ff h
variable{I:Type}
theorem bq[BEq I][LawfulBEq I]{a b:I}(h:(a==b)=true):a=b:=beq_iff_eq.mp h
noncomputable def isConstant(f:Const->Nat->Pos->Bool)(e:PySem.Expr):Bool:=if h:e.ctorIdx=19 then PySem.Expr.Constant.elim (motive_1:=λ _=>Bool) e h f else false
variable{e:PySem.Expr}
@[elab_as_elim] theorem gA{f:Const->Nat->Pos->Bool}{M:PySem.Expr->Prop}(h:isConstant f e=true)(k:∀a b c,f a b c=true->M (.Constant a b c)):M e:=if i:e.ctorIdx=19 then PySem.Expr.Constant.elim (motive_1:=λ e=>isConstant f e=true->M e) e i k h else ff ((dif_neg i).symm.trans h)
noncomputable def jP(f:(List PySem.Expr)->Nat->Pos->Bool)(e:PySem.Expr):Bool:=if h:e.ctorIdx=25 then PySem.Expr.Tuple.elim (motive_1:=λ _=>Bool) e h f else false
@[elab_as_elim] theorem iY{f:(List PySem.Expr)->Nat->Pos->Bool}{M:PySem.Expr->Prop}(h:jP f e=true)(k:∀a b c,f a b c=true->M (.Tuple a b c)):M e:=if i:e.ctorIdx=25 then PySem.Expr.Tuple.elim (motive_1:=λ e=>jP f e=true->M e) e i k h else ff ((dif_neg i).symm.trans h)
noncomputable def isList(f:(List PySem.Expr)->Pos->Bool)(e:PySem.Expr):Bool:=if h:e.ctorIdx=24 then PySem.Expr.List.elim (motive_1:=λ _=>Bool) e h f else false
@[elab_as_elim] theorem EK{f:(List PySem.Expr)->Pos->Bool}{M:PySem.Expr->Prop}(h:isList f e=true)(k:∀a b,f a b=true->M (.List a b)):M e:=if i:e.ctorIdx=24 then PySem.Expr.List.elim (motive_1:=λ e=>isList f e=true->M e) e i k h else ff ((dif_neg i).symm.trans h)
noncomputable def ya(f:(List<|Option PySem.Expr)->(List PySem.Expr)->Pos->Bool)(e:PySem.Expr):Bool:=if h:e.ctorIdx=6 then PySem.Expr.Dict.elim (motive_1:=λ _=>Bool) e h f else false
@[elab_as_elim] theorem EM{f:(List<|Option PySem.Expr)->(List PySem.Expr)->Pos->Bool}{M:PySem.Expr->Prop}(h:ya f e=true)(k:∀a b c,f a b c=true->M (.Dict a b c)):M e:=if i:e.ctorIdx=6 then PySem.Expr.Dict.elim (motive_1:=λ e=>ya f e=true->M e) e i k h else ff ((dif_neg i).symm.trans h)
noncomputable def pi(f:Str->Pos->Bool)(e:PySem.Expr):Bool:=if h:e.ctorIdx=23 then PySem.Expr.Name.elim (motive_1:=λ _=>Bool) e h f else false
@[elab_as_elim] theorem cy{f:Str->Pos->Bool}{M:PySem.Expr->Prop}(h:pi f e=true)(k:∀a b,f a b=true->M (.Name a b)):M e:=if i:e.ctorIdx=23 then PySem.Expr.Name.elim (motive_1:=λ e=>pi f e=true->M e) e i k h else ff ((dif_neg i).symm.trans h)
noncomputable def mo(f:PySem.Expr->Str->Pos->Bool)(e:PySem.Expr):Bool:=if h:e.ctorIdx=20 then PySem.Expr.Attribute.elim (motive_1:=λ _=>Bool) e h f else false
@[elab_as_elim] theorem ez{f:PySem.Expr->Str->Pos->Bool}{M:PySem.Expr->Prop}(h:mo f e=true)(k:∀a b c,f a b c=true->M (.Attribute a b c)):M e:=if i:e.ctorIdx=20 then PySem.Expr.Attribute.elim (motive_1:=λ e=>mo f e=true->M e) e i k h else ff ((dif_neg i).symm.trans h)
noncomputable def oB(f:PySem.Expr->Operator->PySem.Expr->Pos->Bool)(e:PySem.Expr):Bool:=if h:e.ctorIdx=2 then PySem.Expr.BinOp.elim (motive_1:=λ _=>Bool) e h f else false
@[elab_as_elim] theorem t7{f:PySem.Expr->Operator->PySem.Expr->Pos->Bool}{M:PySem.Expr->Prop}(h:oB f e=true)(k:∀a b c d,f a b c d=true->M (.BinOp a b c d)):M e:=if i:e.ctorIdx=2 then PySem.Expr.BinOp.elim (motive_1:=λ e=>oB f e=true->M e) e i k h else ff ((dif_neg i).symm.trans h)
noncomputable def iz(f:UnaryOp->PySem.Expr->Pos->Bool)(e:PySem.Expr):Bool:=if h:e.ctorIdx=3 then PySem.Expr.UnaryOp.elim (motive_1:=λ _=>Bool) e h f else false
@[elab_as_elim] theorem fo{f:UnaryOp->PySem.Expr->Pos->Bool}{M:PySem.Expr->Prop}(h:iz f e=true)(k:∀a b c,f a b c=true->M (.UnaryOp a b c)):M e:=if i:e.ctorIdx=3 then PySem.Expr.UnaryOp.elim (motive_1:=λ e=>iz f e=true->M e) e i k h else ff ((dif_neg i).symm.trans h)
noncomputable def lJ(f:BoolOp->(List PySem.Expr)->Pos->Bool)(e:PySem.Expr):Bool:=if h:e.ctorIdx=0 then PySem.Expr.BoolOp.elim (motive_1:=λ _=>Bool) e h f else false
@[elab_as_elim] theorem iF{f:BoolOp->(List PySem.Expr)->Pos->Bool}{M:PySem.Expr->Prop}(h:lJ f e=true)(k:∀a b c,f a b c=true->M (.BoolOp a b c)):M e:=if i:e.ctorIdx=0 then PySem.Expr.BoolOp.elim (motive_1:=λ e=>lJ f e=true->M e) e i k h else ff ((dif_neg i).symm.trans h)
noncomputable def mG(f:PySem.Expr->(List CmpOp)->(List PySem.Expr)->Pos->Bool)(e:PySem.Expr):Bool:=if h:e.ctorIdx=15 then PySem.Expr.Compare.elim (motive_1:=λ _=>Bool) e h f else false
@[elab_as_elim] theorem mP{f:PySem.Expr->(List CmpOp)->(List PySem.Expr)->Pos->Bool}{M:PySem.Expr->Prop}(h:mG f e=true)(k:∀a b c d,f a b c d=true->M (.Compare a b c d)):M e:=if i:e.ctorIdx=15 then PySem.Expr.Compare.elim (motive_1:=λ e=>mG f e=true->M e) e i k h else ff ((dif_neg i).symm.trans h)
noncomputable def tP(f:PySem.Expr->PySem.Expr->PySem.Expr->Pos->Bool)(e:PySem.Expr):Bool:=if h:e.ctorIdx=5 then PySem.Expr.IfExp.elim (motive_1:=λ _=>Bool) e h f else false
@[elab_as_elim] theorem t6{f:PySem.Expr->PySem.Expr->PySem.Expr->Pos->Bool}{M:PySem.Expr->Prop}(h:tP f e=true)(k:∀a b c d,f a b c d=true->M (.IfExp a b c d)):M e:=if i:e.ctorIdx=5 then PySem.Expr.IfExp.elim (motive_1:=λ e=>tP f e=true->M e) e i k h else ff ((dif_neg i).symm.trans h)
noncomputable def wn(f:PySem.Expr->(List PySem.Expr)->(List Keyword)->Pos->Bool)(e:PySem.Expr):Bool:=if h:e.ctorIdx=16 then PySem.Expr.Call.elim (motive_1:=λ _=>Bool) e h f else false
@[elab_as_elim] theorem i5{f:PySem.Expr->(List PySem.Expr)->(List Keyword)->Pos->Bool}{M:PySem.Expr->Prop}(h:wn f e=true)(k:∀a b c d,f a b c d=true->M (.Call a b c d)):M e:=if i:e.ctorIdx=16 then PySem.Expr.Call.elim (motive_1:=λ e=>wn f e=true->M e) e i k h else ff ((dif_neg i).symm.trans h)
noncomputable def cT(f:PySem.Expr->PySem.Expr->Pos->Bool)(e:PySem.Expr):Bool:=if h:e.ctorIdx=21 then PySem.Expr.Subscript.elim (motive_1:=λ _=>Bool) e h f else false
@[elab_as_elim] theorem cU{f:PySem.Expr->PySem.Expr->Pos->Bool}{M:PySem.Expr->Prop}(h:cT f e=true)(k:∀a b c,f a b c=true->M (.Subscript a b c)):M e:=if i:e.ctorIdx=21 then PySem.Expr.Subscript.elim (motive_1:=λ e=>cT f e=true->M e) e i k h else ff ((dif_neg i).symm.trans h)
noncomputable def sn(f:(Option PySem.Expr)->(Option PySem.Expr)->(Option PySem.Expr)->Pos->Bool)(e:PySem.Expr):Bool:=if h:e.ctorIdx=26 then PySem.Expr.Slice.elim (motive_1:=λ _=>Bool) e h f else false
@[elab_as_elim] theorem oJ{f:(Option PySem.Expr)->(Option PySem.Expr)->(Option PySem.Expr)->Pos->Bool}{M:PySem.Expr->Prop}(h:sn f e=true)(k:∀a b c d,f a b c d=true->M (.Slice a b c d)):M e:=if i:e.ctorIdx=26 then PySem.Expr.Slice.elim (motive_1:=λ e=>sn f e=true->M e) e i k h else ff ((dif_neg i).symm.trans h)
noncomputable def kF(f:PySem.Expr->(List Comprehension)->Scope->Pos->Bool)(e:PySem.Expr):Bool:=if h:e.ctorIdx=8 then PySem.Expr.ListComp.elim (motive_1:=λ _=>Bool) e h f else false
@[elab_as_elim] theorem kI{f:PySem.Expr->(List Comprehension)->Scope->Pos->Bool}{M:PySem.Expr->Prop}(h:kF f e=true)(k:∀a b c d,f a b c d=true->M (.ListComp a b c d)):M e:=if i:e.ctorIdx=8 then PySem.Expr.ListComp.elim (motive_1:=λ e=>kF f e=true->M e) e i k h else ff ((dif_neg i).symm.trans h)
noncomputable def eu(f:(List PySem.Expr)->PySem.Expr->Pos->Bool)(e:Stmt):Bool:=if h:e.ctorIdx=5 then Stmt.Assign.elim (motive_2:=λ _=>Bool) e h f else false
@[elab_as_elim] theorem gb{f:(List PySem.Expr)->PySem.Expr->Pos->Bool}{M:Stmt->Prop}{e}(h:eu f e=true)(k:∀a b c,f a b c=true->M (.Assign a b c)):M e:=if i:e.ctorIdx=5 then Stmt.Assign.elim (motive_2:=λ e=>eu f e=true->M e) e i k h else ff ((dif_neg i).symm.trans h)
noncomputable def eK(f:PySem.Expr->Operator->PySem.Expr->Pos->Bool)(e:Stmt):Bool:=if h:e.ctorIdx=7 then Stmt.AugAssign.elim (motive_2:=λ _=>Bool) e h f else false
@[elab_as_elim] theorem iZ{f:PySem.Expr->Operator->PySem.Expr->Pos->Bool}{M:Stmt->Prop}{e}(h:eK f e=true)(k:∀a b c d,f a b c d=true->M (.AugAssign a b c d)):M e:=if i:e.ctorIdx=7 then Stmt.AugAssign.elim (motive_2:=λ e=>eK f e=true->M e) e i k h else ff ((dif_neg i).symm.trans h)
noncomputable def tM(f:PySem.Expr->Pos->Bool)(e:Stmt):Bool:=if h:e.ctorIdx=24 then Stmt.Expr.elim (motive_2:=λ _=>Bool) e h f else false
@[elab_as_elim] theorem H9{f:PySem.Expr->Pos->Bool}{M:Stmt->Prop}{e}(h:tM f e=true)(k:∀a b,f a b=true->M (.Expr a b)):M e:=if i:e.ctorIdx=24 then Stmt.Expr.elim (motive_2:=λ e=>tM f e=true->M e) e i k h else ff ((dif_neg i).symm.trans h)
noncomputable def mF(f:(Option PySem.Expr)->Pos->Bool)(e:Stmt):Bool:=if h:e.ctorIdx=3 then Stmt.Return.elim (motive_2:=λ _=>Bool) e h f else false
@[elab_as_elim] theorem Bo{f:(Option PySem.Expr)->Pos->Bool}{M:Stmt->Prop}{e}(h:mF f e=true)(k:∀a b,f a b=true->M (.Return a b)):M e:=if i:e.ctorIdx=3 then Stmt.Return.elim (motive_2:=λ e=>mF f e=true->M e) e i k h else ff ((dif_neg i).symm.trans h)
noncomputable def jD(f:Pos->Bool)(e:Stmt):Bool:=if h:e.ctorIdx=27 then Stmt.Continue.elim (motive_2:=λ _=>Bool) e h f else false
@[elab_as_elim] theorem wD{f:Pos->Bool}{M:Stmt->Prop}{e}(h:jD f e=true)(k:∀a,f a=true->M (.Continue a)):M e:=if i:e.ctorIdx=27 then Stmt.Continue.elim (motive_2:=λ e=>jD f e=true->M e) e i k h else ff ((dif_neg i).symm.trans h)
noncomputable def DV(f:PySem.Expr->(List Stmt)->(List Stmt)->Pos->Bool)(e:Stmt):Bool:=if h:e.ctorIdx=12 then Stmt.If.elim (motive_2:=λ _=>Bool) e h f else false
@[elab_as_elim] theorem Tx{f:PySem.Expr->(List Stmt)->(List Stmt)->Pos->Bool}{M:Stmt->Prop}{e}(h:DV f e=true)(k:∀a b c d,f a b c d=true->M (.If a b c d)):M e:=if i:e.ctorIdx=12 then Stmt.If.elim (motive_2:=λ e=>DV f e=true->M e) e i k h else ff ((dif_neg i).symm.trans h)
noncomputable def pV(f:PySem.Expr->(List Stmt)->(List Stmt)->Pos->Bool)(e:Stmt):Bool:=if h:e.ctorIdx=11 then Stmt.While.elim (motive_2:=λ _=>Bool) e h f else false
@[elab_as_elim] theorem EJ{f:PySem.Expr->(List Stmt)->(List Stmt)->Pos->Bool}{M:Stmt->Prop}{e}(h:pV f e=true)(k:∀a b c d,f a b c d=true->M (.While a b c d)):M e:=if i:e.ctorIdx=11 then Stmt.While.elim (motive_2:=λ e=>pV f e=true->M e) e i k h else ff ((dif_neg i).symm.trans h)
noncomputable def tK(f:PySem.Expr->PySem.Expr->(List Stmt)->(List Stmt)->Pos->Bool)(e:Stmt):Bool:=if h:e.ctorIdx=9 then Stmt.For.elim (motive_2:=λ _=>Bool) e h f else false
@[elab_as_elim] theorem yp{f:PySem.Expr->PySem.Expr->(List Stmt)->(List Stmt)->Pos->Bool}{M:Stmt->Prop}{e}(h:tK f e=true)(k:∀a b c d e,f a b c d e=true->M (.For a b c d e)):M e:=if i:e.ctorIdx=9 then Stmt.For.elim (motive_2:=λ e=>tK f e=true->M e) e i k h else ff ((dif_neg i).symm.trans h)
noncomputable def pW(f:(List Stmt)->(List ExceptHandler)->(List Stmt)->(List Stmt)->Pos->Bool)(e:Stmt):Bool:=if h:e.ctorIdx=17 then Stmt.Try.elim (motive_2:=λ _=>Bool) e h f else false
@[elab_as_elim] theorem yo{f:(List Stmt)->(List ExceptHandler)->(List Stmt)->(List Stmt)->Pos->Bool}{M:Stmt->Prop}{e}(h:pW f e=true)(k:∀a b c d e,f a b c d e=true->M (.Try a b c d e)):M e:=if i:e.ctorIdx=17 then Stmt.Try.elim (motive_2:=λ e=>pW f e=true->M e) e i k h else ff ((dif_neg i).symm.trans h)
noncomputable def one{I:Type}(f:I->Bool)(l:List I):Bool:=match l with|[]=>false|a::l=>match l with|[]=>f a|_::_=>false
@[elab_as_elim] theorem gJ{f:I->Bool}{M:List I->Prop}{l:List I}(h:one f l=true)(k:∀a,f a=true->M [a]):M l:=match l with|[]=>ff h|a::l=>match l with|[]=>k a h|_::_=>ff h
noncomputable def nZ{I:Type}(l:List I):Bool:=match l with|[]=>true|_::_=>false
@[elab_as_elim] theorem eO{M:List I->Prop}{l:List I}(h:nZ l=true)(k:M []):M l:=match l with|[]=>k|_::_=>ff h
noncomputable def Hv{I:Type}(l:Option I):Bool:=match l with|none=>true|some _=>false
@[elab_as_elim] theorem FX{M:Option I->Prop}{l:Option I}(h:Hv l=true)(k:M none):M l:=match l with|none=>k|some _=>ff h
noncomputable def qS{I:Type}(f:I->Bool)(l:Option I):Bool:=match l with|none=>false|some a=>f a
@[elab_as_elim] theorem t4{f:I->Bool}{M:Option I->Prop}{l:Option I}(h:qS f l=true)(k:∀a,f a=true->M (some a)):M l:=match l with|none=>ff h|some a=>k a h
noncomputable def DY{I:Type}(l:List I):Bool:=match l with|[]=>false|_::_=>true
@[elab_as_elim] theorem Ia{M:List I->Prop}{l:List I}(h:DY l=true)(k:∀a l,M (a::l)):M l:=match l with|[]=>ff h|a::l=>k a l
inductive GK where
 |mod|blt|no
variable{j:Nat}{sc:Scope}{ir:IE}
section
variable(N:Nat->Str)(gk:Str->AV->GK)(an:Nat->Bool)
noncomputable def aV{I β:Type}(f:I->β->Bool):List I->List β->Bool
 |[],l=>match l with|[]=>true|_::_=>false
 |a::k,l=>match l with|[]=>false|b::l=>f a b&&aV f k l
noncomputable def FJ(op:BY)(o:Operator):Bool:=match op with|.add=>o==.Add|.sub=>o==.Sub|.mul=>o==.Mult|.mod=>o==.Mod
noncomputable def Nt(op:WO)(o:CmpOp):Bool:=match op with|.eq=>o==.Eq|.ne=>o==.NotEq|.lt=>o==.Lt|.gt=>o==.Gt|.is=>o==.Is|.gI=>o==.IsNot|.isin=>o==.In|.fQ=>o==.NotIn
def ua(v:AV)(c:Const):Bool:=match v with
 |.none=>match c with|.none=>true|_=>false
 |.b x=>match c with|.bool y=>x==y|_=>false
 |.i v o=>match c with|.int j=>Nat.beq v 0&&wf o j|_=>false
 |.s k=>match c with|.str x=>N k==x|_=>false
 |_=>false
noncomputable def rc(sc:Scope)(x:Nat)(y:Str)(k:NameKind):Bool:=N x==y&&sc.names.lookup y==some k
def yT(sc:Scope)(t:TG)(e:PySem.Expr):Bool:=match t with|.l x=>pi (λ y _=>rc N sc x y .local) e|.b9 x=>pi (λ y _=>rc N sc x y .cell) e|.tup _=>false|.bad=>false
def gV(sc:Scope)(t:TG)(e:PySem.Expr):Bool:=match t with|.tup ts=>jP (λ es _ _=>aV (yT N sc) ts es) e|.l x=>yT N sc (.l x) e|.b9 x=>yT N sc (.b9 x) e|.bad=>false
noncomputable def ph(e:IE):Bool:=match e with
 |.call _ as=>match as with|[]=>false|_::_=>true
 |_=>true
def yA(f:IE->PySem.Expr->Bool)(x:Option IE)(y:Option PySem.Expr):Bool:=match x with|none=>Hv y|some x=>qS (f x) y
noncomputable def xH(e:IE):Bool:=match e with|.dg _ _=>false|_=>true
noncomputable def gr(sc outer:Scope):Scope:=
 {sc with names:=sc.names.map λ(n,k)=>if(k==.free&&outer.kind==.function&&outer.names.lookup n==some .cell)then(n,.cell)else(n,k)}
noncomputable def y0(sc:Scope):Bool:=sc.kind==.function&& !sc.isCoroutine&& !sc.isGenerator&&(sc.names.lookup ("__debug__" :Str)).isNone&&(sc.names.lookup ("__classdict__" :Str)).isNone
noncomputable def gW(t:TG):Bool:=match t with|.l _=>true|.b9 _=>true|_=>false
def wM(sc:Scope)(fr:List Nat):Bool:=sc.names.all (λ p=>(p.2==.local&&sc.names.lookup p.1==some .local)||(p.2==.free&&sc.names.lookup p.1==some .free)||p.2==.globalImplicit)&&
 aV (λ i(x:Str×NameKind)=>N i==x.1) fr (sc.names.filter (·.2==.free))
def Jq(f:PySem.Expr->PySem.Expr->List PySem.Expr->Bool)(g:Comprehension):Bool:=f g.target g.iter g.ifs&&wf g.is_async 0
@[elab_as_elim] theorem ZN{f:PySem.Expr->PySem.Expr->List PySem.Expr->Bool}{M:Comprehension->Prop}{g}(h:Jq f g=true)(k:∀a b c,f a b c=true->M ⟨a,b,c,0⟩):M g:=by
 obtain⟨a,b,c,d⟩:=g;have z:d=0:=(PySem.W.Z.eqB_iff d 0).mp<|aR h;rw[z];exact k a b c<|aL h
noncomputable def aE:Nat->Scope->IE->PySem.Expr->Bool
 |0,_,_,_=>false|n+1,sc,ir,e=>match ir with
  |.c v=>isConstant (λ c _ _=>ua N v c) e|.tup es=>jP (λ l _ _=>Nat.ble (len es) 100&&aV (aE n sc) es l) e|.list es=>isList (λ l _=>Nat.ble (len es) 100&&aV (aE n sc) es l) e|.dict ks vs=>ya (λ k v _=>Nat.ble (len ks) 100&&aV (λ a=>qS<|aE n sc a) ks k&&aV (aE n sc) vs v) e|.l x=>pi (λ y _=>rc N sc x y .local) e|.b9 x=>pi (λ y _=>rc N sc x y .cell||rc N sc x y .free) e|.cJ x v=>pi (λ y _=>N x==y&&(sc.names.lookup y==some .globalImplicit)&&(match gk y v with|.no=>false|_=>true)) e|.dg a x=>mo (λ v y _=>N x==y&&an x&&aE n sc a v&&ph a) e|.bin op l r=>oB (λ a o b _=>FJ op o&&aE n sc l a&&aE n sc r b) e|.neg a=>iz (λ o b _=>o==.USub&&aE n sc a b) e|.not a=>iz (λ o b _=>o==.Not&&aE n sc a b) e|.and es=>lJ (λ o l _=>o==.And&&aV (aE n sc) es l) e|.or es=>lJ (λ o l _=>o==.Or&&aV (aE n sc) es l) e|.cmp op l r=>mG (λ a os bs _=>one (λ o=>one (λ b=>Nt op o&&aE n sc l a&&aE n sc r b&& !behindInMarks o b) bs) os) e|.ite t a c=>tP (λ B a' c' _=>aE n sc t B&&aE n sc a a'&&aE n sc c c') e|.call f as=>wn (λ g l ks _=>nZ ks&&(aE n sc f g&&xH f&&Nat.ble (len as) 20&&aV (aE n sc) as l)) e|.bT o x as=>wn (λ f l ks p=>nZ ks&&mo (λ o' y ap=>N x==y&&aE n sc o o'&&ph o&&ap.endLine==p.line&&Nat.ble (len as) 20&&aV (aE n sc) as l) f) e|.sub a k=>cT (λ v i _=>aE n sc a v&&aE n sc k i) e|.oR a lo hi=>cT (λ v s _=>sn (λ l h st _=>Hv st&&(aE n sc a v&&yA (aE n sc) lo l&&yA (aE n sc) hi h)) s) e
  |.comp elt t it ifs fr=>kF (λ O J fC _=>one (Jq λ B xc jo=>
    aE n sc it xc&&y0 fC&&wM N fC fr&&aE n (gr fC sc) elt O&&gW t&&yT N (gr fC sc) t B&&Nat.ble (len ifs) 1&&aV (aE n<|gr fC sc) ifs jo) J) e
  |.bad _=>false
noncomputable def jN(e:IE):Bool:=match e with|.comp _ _ _ _ _=>false|_=>true
noncomputable def mw(t:TG)(e:IE):Bool:=match t with
 |.tup _=>match e with|.tup _=>false|.comp _ _ _ _ _=>false|_=>true
 |_=>true
noncomputable def Jd(r:Str):Bool:=r==("range" :Str)&&(match gk r (.ty 5)with|.no=>false|_=>true)
def L4(c:Option PySem.Expr):Bool:=qS (isConstant λ c _ _=>ua N (.i 0 0) c) c
@[elab_as_elim] theorem TA{M:Option PySem.Expr->Prop}{c:Option PySem.Expr}(h:L4 N c=true)(k:∀a b,M<|some<|.Constant (.int 0) a b):M c:=by
 refine t4 h λ c h=>gA h λ c a b h=>?_;cases c<;>try exact ff h
 rename_i j;rw[<-(PySem.W.Z.eqB_iff 0 j).mp (aR (show(Nat.beq 0 0&&wf 0 j)=true from h))];exact k a b
noncomputable def dn:Nat->Scope->IS->Stmt->Bool
 |0,_,_,_=>false|n+1,sc,i,s=>match i with|.asg t e=>eu (λ ts B _=>one (λ J=>gV N sc t J&&aE N gk an n sc e B&&mw t e) ts) s|.n_ o x e=>eu (λ ts B _=>one (mo λ o' y _=>N x==y&&an x&&aE N gk an n sc o o'&&aE N gk an n sc e B) ts) s|.mR o k e=>eu (λ ts B _=>one (cT λ o' k' _=>aE N gk an n sc o o'&&aE N gk an n sc k k'&&aE N gk an n sc e B) ts) s|.Iv o e=>eu (λ ts B _=>one (cT λ o' sl _=>sn (λ a b st _=>L4 N a&&L4 N b&&Hv st&&aE N gk an n sc o o'&&aE N gk an n sc e B) sl) ts) s|.Iu x op e=>eK (λ t kY B _=>pi (λ y _=>rc N sc x y .cell&&FJ op kY&&aE N gk an n sc e B) t) s|.n7 o x op e=>eK (λ t kY B _=>mo (λ o' y _=>N x==y&&an x&&FJ op kY&&aE N gk an n sc o o'&&aE N gk an n sc e B) t) s|.Ir o k op e=>eK (λ t kY B _=>cT (λ o' k' _=>FJ op kY&&aE N gk an n sc o o'&&aE N gk an n sc k k'&&aE N gk an n sc e B) t) s|.ex e=>tM (λ B _=>aE N gk an n sc e B&&jN e) s|.ret e=>mF (λ B _=>yA (aE N gk an n sc) e B) s|.cont=>jD (λ _=>true) s|.iff t a b=>DV (λ J a' b' _=>aE N gk an n sc t J&&aV (dn n sc) a a'&&aV (dn n sc) b b') s|.Ga t b=>pV (λ J b' o _=>nZ o&&(aE N gk an n sc t J&&aV (dn n sc) b b')) s|.fr t e b=>tK (λ J B b' o _=>nZ o&&(gV N sc t J&&aE N gk an n sc e B&&aV (dn n sc) b b')) s|.BV t e b=>tK (λ J it b' o _=>nZ o&&wn (λ f as ks _=>nZ ks&&pi (λ r _=>one (λ B=>gW t&&yT N sc t J&&Jd gk r&&sc.names.lookup r==some .globalImplicit&&aE N gk an n sc e B&&aV (dn n sc) b b') as) f) it) s|.Cg b f=>pW (λ b' hs o O _=>nZ hs&&nZ o&&DY O&&(aV (dn n sc) b b'&&aV (dn n sc) f O)) s|.VB b f=>pW (λ b' hs o O _=>DY hs&&nZ o&&DY O&&(aV (dn n sc) b b'&&aV (dn n sc) f O)) s|.Gn b=>pW (λ b' hs o O _=>DY hs&&nZ o&&nZ O&&aV (dn n sc) b b') s|.iq=>true|.WI _ _=>true|.bad _=>true
noncomputable def jj:List Nat->Bool
 |[]=>true|a::l=> !l.any (Nat.beq a)&&jj l
noncomputable def Qh(f:Fn)(sc:Scope):Bool:=f.ps.all λ x=>match f.cells.any (Nat.beq x)with|true=>sc.names.lookup (N x)==some .cell|false=>sc.names.lookup (N x)==some .local
def Iq(fuel:Nat)(f:Fn)(fd:FuncData)(b:List Stmt):Bool:=
 y0 fd.scope&&fd.params.posonlyargs.isEmpty&&fd.params.kwonlyargs.isEmpty&&fd.params.vararg.isNone&&fd.params.kwarg.isNone&&aV (λ i(a:Arg)=>N i==a.arg) f.ps fd.params.args&&jj f.ps&&jj f.cells&&
  Qh N f fd.scope&&aV (λ i(p:Str×NameKind)=>N i==p.1) f.cells (fd.scope.names.filter (·.2==.cell))&&Nat.beq fd.globals 3&&Nat.beq fd.builtins 0&&Nat.ble (len f.dv) (len f.ps)&&aV (dn N gk an fuel fd.scope) f.body b
noncomputable def D4(e:IE):Nat:=match e with
 |.c _=>19|.tup _=>25|.list _=>24|.dict _ _=>6|.l _=>23|.b9 _=>23|.cJ _ _=>23|.dg _ _=>20|.bin _ _ _=>2|.neg _=>3|.not _=>3|.and _=>0|.or _=>0
 |.cmp _ _ _=>15|.ite _ _ _=>5|.call _ _=>16|.bT _ _ _=>16|.sub _ _=>21|.oR _ _ _=>21|.comp _ _ _ _ _=>8|.bad _=>100
theorem Io{n:Nat}(h:aE N gk an n sc ir e=true):e.ctorIdx=D4 ir:=by
 cases n with|zero=>exact ff h|succ n=>
  cases ir with|c v=>exact gA h λ _ _ _ _=>rfl|tup _=>exact iY h λ _ _ _ _=>rfl|list _=>exact EK h λ _ _ _=>rfl|dict _ _=>exact EM h λ _ _ _ _=>rfl|l _=>exact cy h λ _ _ _=>rfl|b9 _=>exact cy h λ _ _ _=>rfl|cJ _ _=>exact cy h λ _ _ _=>rfl|dg _ _=>exact ez h λ _ _ _ _=>rfl|bin _ _ _=>exact t7 h λ _ _ _ _ _=>rfl|neg _=>exact fo h λ _ _ _ _=>rfl|not _=>exact fo h λ _ _ _ _=>rfl|and _=>exact iF h λ _ _ _ _=>rfl|or _=>exact iF h λ _ _ _ _=>rfl|cmp _ _ _=>exact mP h λ _ _ _ _ _=>rfl|ite _ _ _=>exact t6 h λ _ _ _ _ _=>rfl|call _ _=>exact i5 h λ _ _ _ _ _=>rfl|bT _ _ _=>exact i5 h λ _ _ _ _ _=>rfl|sub _ _=>exact cU h λ _ _ _ _=>rfl|oR _ _ _=>exact cU h λ _ _ _ _=>rfl|comp _ _ _ _ _=>exact kI h λ _ _ _ _ _=>rfl|bad _=>exact ff h
end
structure bt(n:Nat)(A:Around):Prop where
 handled:A.handled=none
 depth:A.depth+2*n<=900
 units:A.units+20*n<=9000
structure a7(Z:Sy)(G:Nat->Addr)(n L:Nat)(cs:Cs)(sc:Scope)(env:PySem.Env):Prop where
 scope:env.scope=sc
 ok:y0 sc=true
 locals:env.locals=G L
 lt:L<n
 globals:env.globals=3
 builtins:env.builtins=0
 cells:∀x c,lk x cs=some c->c<n/\env.cells.lookup (Z.nm x)=some (G c)
theorem gq(h:y0 sc=true):sc.kind=.function/\sc.isCoroutine=false/\sc.isGenerator=false/\sc.names.lookup ("__debug__" :Str)=none/\sc.names.lookup ("__classdict__" :Str)=none:=by
 unfold y0 at h;simp only[Bool.and_eq_true,Bool.not_eq_true',beq_iff_eq,Option.isNone_iff_eq_none]at h;refine xA h λ z0 e=>?_;obtain⟨⟨⟨a,b⟩,c⟩,d⟩:=z0;exact⟨a,b,c,d,e⟩
variable{env:PySem.Env}
theorem a7.kind{Z}{G:Nat->Addr}{n L:Nat}{cs}(R:a7 Z G n L cs sc env):sc.kind=.function:=(gq R.ok).1
structure cH(Z:Sy)(w:World)(G:Nat->Addr)(st:St)(s:Shared)(ay:Nat->Addr)(ab:St)(s':Shared):Prop where
 same:∃h t,s'={s with heap:=h,toks:=t}
 sr:SR Z w ay ab s'.heap
 kp:Kp G st s.heap ay ab s'.heap
variable{ay az aa e_:Nat->Addr}{st ab ac af aJ:St}{s' aq ci bM:Shared}{h':Heap}
section
variable{Z:Sy}{w:World}{G:Nat->Addr}{s:Shared}
theorem cH.refl(S:SR Z w G st s.heap):cH Z w G st s G st s:=⟨⟨s.heap,s.toks,rfl⟩,S,Kp.refl _ _ _ S.lt⟩
theorem cH.trans(S:SR Z w az ac aq.heap)(x:cH Z w az ac aq aa af ci)(y:cH Z w aa af ci e_ aJ bM):cH Z w az ac aq e_ aJ bM:=by
 refine j_ x.same λ h t B=>?_;subst B;refine j_ y.same λ h' J B=>?_;subst B;exact⟨⟨h',J,rfl⟩,y.sr,x.kp.trans y.kp S.lt x.sr⟩
theorem cH.tok(S:SR Z w G st s.heap)(t:Nat):cH Z w G st s G st {s with toks:=t}:=⟨⟨s.heap,t,rfl⟩,S,Kp.refl _ _ _ S.lt⟩
theorem a7.kp{L:Nat}{cs}(R:a7 Z G st.nx L cs sc env){h}(k:Kp G st h ay ab h'):a7 Z ay ab.nx L cs sc env:=
 ⟨R.scope,R.ok,R.locals.trans (k.same L R.lt).symm,ba R.lt k.nx,R.globals,R.builtins,λ x c e=>⟨ba (R.cells x c e).1 k.nx,by rw[(R.cells x c e).2,k.same c (R.cells x c e).1]⟩⟩
end
def Kt(Z:Sy)(w:World)(G:Nat->Addr)(st:St)(s:Shared)(Q:Value->Shared->Prop)(v:AV)(ab:St):Prop:=∀ay v' s',cH Z w G st s ay ab s'->VR Z ay ab.nx s'.heap v v'->Q v' s'
variable{Q:Value->Shared->Prop}{v:AV}
theorem Kt.eq{Z}{w}{G:Nat->Addr}{s}{x}(q:Kt Z w G st s Q v ab)(h:some (x,ac)=some (v,ab)):Kt Z w G st s Q x ac:=(sP h).1.symm▸(sP h).2.symm▸q
def Kb(Z:Sy)(w:World)(G:Nat->Addr)(st:St)(s:Shared)(Q:Bool->Shared->Prop)(b:Bool)(ab:St):Prop:=∀ay s',cH Z w G st s ay ab s'->Q b s'
theorem Kb.eq{Z}{w}{G:Nat->Addr}{s}{Q:Bool->Shared->Prop}{v x:I}{b:Bool}(q:Kb Z w G st s Q b ab)(h:some (x,ac)=some (v,ab)):Kb Z w G st s Q b ac:=(sP h).2.symm▸q
theorem Kb.lY{Z}{w}{G:Nat->Addr}{s:Shared}{Q:Bool->Shared->Prop}{b:Bool}(S:SR Z w G st s.heap)(a:cH Z w G st s az ac aq)(q:Kb Z w G st s Q b ab):Kb Z w az ac aq Q b ab:=λ ay s' c=>q ay s'<|a.trans S c
def Ku(Z:Sy)(w:World)(G:Nat->Addr)(st:St)(s:Shared)(Q:Unit->Shared->Prop)(ab:St):Prop:=∀s',cH Z w G st s G ab s'->Q () s'
theorem Ku.eq{Z}{w}{G:Nat->Addr}{s}{Q:Unit->Shared->Prop}(q:Ku Z w G st s Q ab)(h:some ac=some ab):Ku Z w G st s Q ac:=(sI h).symm▸q
def yM(Z:Sy)(gk:Str->AV->GK):Prop:=∀(w:World)(h:Heap),Ready w h->∀y v,match gk y v with|.mod=>∃mg u,h.Ns 3 mg/\mg y=some u/\∀G n,VR Z G n h v u|.blt=>∃mg mb u,h.Ns 3 mg/\mg y=none/\h.Ns 0 mb/\mb y=some u/\∀G n,VR Z G n h v u|.no=>True
abbrev aD(w:World){I:Type}:=@wpAny I<|model pw w
def jf(Z:Sy)(w:World)(gk:Str->AV->GK)(an:Nat->Bool)(n:Nat)(f:Nat->Cs->IE->St->Option (AV×St)):Prop:=
 ∀{L cs ir st v ab},f L cs ir st=some (v,ab)->∀{m sc e},aE Z.nm gk an m sc ir e=true->∀{A env G s},bt n A->a7 Z G st.nx L cs sc env->SR Z w G st s.heap->
  ∀{Q:Value->Shared->Prop}{E:Value->Shared->Prop},Kt Z w G st s Q v ab->aD w A (eval e env) Q E s
variable{A:Around}{pos:Pos}
section
variable{Z:Sy}{w:World}{gk:Str->AV->GK}{an:Nat->Bool}{n m:Nat}{ih:Ih}{L:Nat}{cs:Cs}{G:Nat->Addr}{s:Shared}{E:Value->Shared->Prop}
theorem lP{u}{c}{k:Nat}(hc:ua Z.nm u c=true)(S:SR Z w G st s.heap)(z0:Z.σ 0=0)(h:∀v' s',cH Z w G st s G st s'->VR Z G st.nx s'.heap u v'->Q v' s'):aD w A (eval (.Constant c k pos) env) Q E s:=by
 cases u with
 |none=>cases c<;>first|exact wpAny_Constant_none (h _ _ (.refl S) .none)|exact ff hc
 |b x=>cases c<;>first|(have q:=beq_iff_eq.mp hc;clear hc;subst q;exact wpAny_Constant_bool<|h _ _ (.refl S)<|.b _)|exact ff hc
 |i v o=>
  cases c<;>try (exact ff hc;done)
  rename_i j;refine xA (fS hc) λ a b=>?_;have a:=bC a;have b:o=j:=(PySem.W.Z.eqB_iff o j).mp b;clear hc;subst a b;refine wpAny_Constant_int<|h _ _ (.tok S _) ?_;have:=VR.i (Z:=Z) (G:=G) (n:=st.nx) (h:=s.heap) 0 o s.toks;rwa [z0,Int.zero_add]at this
 |s k=>
  cases c<;>try (exact ff hc;done)
  have q:=beq_iff_eq.mp hc;clear hc;subst q;exact wpAny_Constant_str (h _ _ (.tok S _)<|.s k _)
 |_=>exact ff hc
end
variable{β γ:Type}{xs:List AV}{es:List<|Nat×AV}
section
variable{r:β}{b:Bool}{x y:Option β}{P:Prop}
theorem AW{m n:Nat}(e:cj (Nat.ble m n) x=some r)(k:m<=n->x=some r->P):P:=kW e λ h=>k<|dY h
theorem AK{m n:Nat}(e:cj (Nat.blt m n) x=some r)(k:m<n->x=some r->P):P:=kW e λ h=>k<|dY h
@[elab_as_elim] theorem nY{M:Nat->Prop}{m k:Nat}(e:cj (Nat.beq m k) x=some r)(q:x=some r->M k):M m:=kW e λ h e=>bC h▸q e
@[elab_as_elim] theorem WB{M:Int->Prop}{m k:Int}(e:cj (wf m k) x=some r)(q:x=some r->M k):M m:=kW e λ h e=>(PySem.W.Z.eqB_iff m k).mp h▸q e
theorem jc(e:pt x y=some r)(k:x=some r->P)(l:y=some r->P):P:=by
 cases x with|none=>exact l e|some B=>exact k e
theorem dR{x:Option<|I×St}{f:I->St->Option β}(e:bF x f=some r)(k:∀a st,x=some (a,st)->f a st=some r->P):P:=by
 cases x with|none=>exact nn e|some a=>exact k a.1 a.2 rfl e
theorem E4{x:Option<|I×St}{f:I->St->Option β}(h:bF x f=some r):∃a st,x=some (a,st)/\f a st=some r:=dR h λ a st e h=>⟨a,st,e,h⟩
theorem cY{x:Option I}{f:I->Option β}(h:bd x f=some r):∃a,x=some a/\f a=some r:=aX h λ a e h=>⟨a,e,h⟩
@[elab_as_elim] theorem sj{B:Type}{M:γ->B->Prop}{a c:γ}{b d:B}(e:some (a,b)=some (c,d))(k:M a b):M c d:=(sP e).1▸(sP e).2▸k
@[elab_as_elim] theorem gH{M:γ->Prop}{a c:γ}(e:some a=some c)(k:M a):M c:=sI e▸k
@[elab_as_elim] theorem xB{M:List I->Prop}{l:List I}{f:I->List I->Option β}(e:uC l f=some r)(k:∀a l,f a l=some r->M (a::l)):M l:=by
 cases l with|nil=>exact nn e|cons a l=>exact k a l e
@[elab_as_elim] theorem Ny{M:AO->Prop}{o}{f:List AV->Option β}{g:List AV->Nat->Nat->List AV->Option β}(e:GU o f g=some r)(k:∀xs,f xs=some r->M (.list xs))(l:∀p k lv q,g p k lv q=some r->M (.seg p k lv q)):M o:=by
 cases o with|list xs=>exact k xs e|seg p i lv q=>exact l p i lv q e|_=>exact nn e
@[elab_as_elim] theorem Of{M:List AV->Prop}{l}{f:AV->AV->Option β}(e:Ai l f=some r)(k:∀a b,f a b=some r->M [a,b]):M l:=xB e λ a l e=>xB (M:=λ l=>M (a::l)) e λ b l e=>by
 cases l with|nil=>exact k a b e|cons _ _=>exact nn e
@[elab_as_elim] theorem Lg{M:List AV->Prop}{l}{f:AV->Option β}(e:wE l f=some r)(k:∀a,f a=some r->M [a]):M l:=xB e λ a l e=>by
 cases l with|nil=>exact k a e|cons _ _=>exact nn e
@[elab_as_elim] theorem Ow{M:AV->Prop}{a}{f:Nat->Int->Option β}(e:ky a f=some r)(k:∀v o,f v o=some r->M (.i v o)):M a:=by
 cases a with|i v o=>exact k v o e|_=>exact nn e
@[elab_as_elim] theorem Ld{M:AV->Prop}{a}{f:Nat->Option β}(e:w_ a f=some r)(k:∀j,f j=some r->M (.s j)):M a:=by
 cases a with|s j=>exact k j e|_=>exact nn e
@[elab_as_elim] theorem Ot{M:AV->Prop}{a}{f:List AV->Option β}(e:C4 a f=some r)(k:∀xs,f xs=some r->M (.t xs)):M a:=by
 cases a with|t xs=>exact k xs e|_=>exact nn e
@[elab_as_elim] theorem orE{M:AV->Prop}{a}{f:Nat->Option β}(e:uB a f=some r)(k:∀j,f j=some r->M (.r j)):M a:=by
 cases a with|r j=>exact k j e|_=>exact nn e
theorem AL{T:TR AO}(e:dE T j=some xs):T.get j=some (.list xs):=aX e λ o h e=>by
 cases o with|list ys=>exact h.trans (congrArg _<|congrArg _<|sI e)|_=>exact nn e
theorem dz{d:Nat}(e:nU st d=some es):st.T.get d=some (.ns es):=aX e λ o h e=>by
 cases o with|ns ys=>exact h.trans (congrArg _<|congrArg _<|sI e)|_=>exact nn e
theorem gx{o}{p:Nat×Nat}(e:ru o=some p):o=.inst p.1 p.2:=by
 cases o with|inst c d=>exact gH e rfl|_=>exact nn e
theorem pn{d:Nat}{p:Nat×Nat}(e:ownOf st d=some p):st.T.get d=some (.inst p.1 p.2):=aX e λ o h e=>gx e▸h
theorem kL{o}{v:Option AV}(e:rK o=some v):o=.cell v:=by
 cases o with|cell c=>exact congrArg _ (sI e)|_=>exact nn e
end
section
variable(Z:Sy)(G:Nat->Addr)(n:Nat)(h:Heap)
def VRu(a:AV)(u:Value):Prop:=match a with|.none=>u=.none|.b x=>u=.bool x|.i v o=>∃t,u=.int (Z.σ v+o) t|.s k=>∃t,u=.str (Z.nm k) t|.r j=>j<n/\u=.ref (G j)|.g j=>u=.ref j|.bi k=>u=.builtin (Z.bn k)|.ty k=>u=.type (Z.tn k)|.t xs=>∃ws a o m,u=.ref a/\h.get? a=some o/\o.cls=.type "tuple" /\o.data=.seq ws.toArray m/\br Z G n h xs ws
end
variable{u:Value}
section
variable{Z:Sy}{G:Nat->Addr}{n:Nat}{h:Heap}{a:AV}{r:β}
theorem VR.un(V:VR Z G n h a u):VRu Z G n h a u:=by
 cases V with|i _ _ t=>exact⟨t,rfl⟩|s _ t=>exact⟨t,rfl⟩|r _ hj=>exact⟨hj,rfl⟩|t _ ws a o m h1 h2 B J O=>exact⟨ws,a,o,m,rfl,h1,h2,B,J,O⟩|_=>exact rfl
theorem VR.i'{v:Nat}{o i:Int}{t:Tok}(e:i=Z.σ v+o):VR Z G n h (.i v o) (.int i t):=e▸.i v o t
@[elab_as_elim] theorem VR.Zd{M:Value->Prop}(V:VR Z G n h .none u)(k:M .none):M u:=(VR.un V:u=_)▸k
@[elab_as_elim] theorem VR.RS{M:Value->Prop}{v:Nat}{o:Int}(V:VR Z G n h (.i v o) u)(k:∀t,M<|.int (Z.σ v+o) t):M u:=let⟨z,e⟩:=VR.un V;e▸k z
@[elab_as_elim] theorem VR.inR{M:Value->Prop}(V:VR Z G n h (.r j) u)(k:j<n->M (.ref<|G j)):M u:=let⟨z,e⟩:=VR.un V;e▸k z
@[elab_as_elim] theorem VR.qT{M:Value->Prop}(V:VR Z G n h (.t xs) u)(k:∀ws a o m,h.get? a=some o->o.cls=.type "tuple" ->o.data=.seq ws.toArray m->br Z G n h xs ws->M (.ref a)):M u:=cZ (VR.un V) λ ws a o m e h1 h2 B J=>e▸k ws a o m h1 h2 B J
@[elab_as_elim] theorem GS{x:Option β}{M:AV->Value->Prop}(e:Qn a x=some r)(U:VR Z G n h a u)(k:x=some r->M .none .none):M a u:=by
 cases a with|none=>exact(VR.un U:u=_)▸k e|_=>exact nn e
@[elab_as_elim] theorem gY{f:Nat->Int->Option β}{M:AV->Value->Prop}(e:ky a f=some r)(U:VR Z G n h a u)(k:∀v o t,f v o=some r->M (.i v o) (.int (Z.σ v+o) t)):M a u:=Ow (M:=λ a=>VR Z G n h a u->M a u) e (λ v o e U=>U.RS λ t=>k v o t e) U
@[elab_as_elim] theorem Ay{f:Nat->Option β}{M:AV->Value->Prop}(e:w_ a f=some r)(U:VR Z G n h a u)(k:∀j t,f j=some r->M (.s j) (.str (Z.nm j) t)):M a u:=Ld (M:=λ a=>VR Z G n h a u->M a u) e (λ j e U=>xE (VR.un U) λ t q=>q▸k j t e) U
@[elab_as_elim] theorem jW{f:Nat->Option β}{M:AV->Value->Prop}(e:uB a f=some r)(U:VR Z G n h a u)(k:∀j,j<n->f j=some r->M (.r j) (.ref<|G j)):M a u:=orE (M:=λ a=>VR Z G n h a u->M a u) e (λ j e U=>U.inR λ t=>k j t e) U
@[elab_as_elim] theorem Qm{f:List AV->Option β}{M:AV->Value->Prop}(e:C4 a f=some r)(U:VR Z G n h a u)(k:∀xs ws a o m,f xs=some r->h.get? a=some o->o.cls=.type "tuple" ->o.data=.seq ws.toArray m->br Z G n h xs ws->M (.t xs) (.ref a)):M a u:=Ot (M:=λ a=>VR Z G n h a u->M a u) e (λ xs e U=>U.qT λ ws a o m=>k xs ws a o m e) U
end
variable{us:List Value}
section
variable{Z:Sy}{G:Nat->Addr}{n:Nat}{h:Heap}{a b:AV}{M:List Value->Prop}
@[elab_as_elim] theorem br.vH(V:br Z G n h [] us)(k:M []):M us:=(eU V.1.symm:us=[])▸k
@[elab_as_elim] theorem br.Ah(V:br Z G n h (a::xs) us)(k:∀u us,VR Z G n h a u->br Z G n h xs us->M (u::us)):M us:=a5 V.gf λ u us e r t=>e▸k u us r t
@[elab_as_elim] theorem br.sL(V:br Z G n h [a] us)(k:∀u,VR Z G n h a u->M [u]):M us:=V.Ah λ u us r t=>t.vH<|k u r
@[elab_as_elim] theorem br.Cc(V:br Z G n h [a,b] us)(k:∀u v,VR Z G n h a u->VR Z G n h b v->M [u,v]):M us:=V.Ah λ u us r t=>t.sL λ v q=>k u v r q
end
theorem qq{x}{k}(h:sc.names.lookup x=some k)(hd:sc.names.lookup ("__debug__" :Str)=none):(x==("__debug__" :Str))=false:=by
 cases q:(x==("__debug__" :Str))with
 |false=>rfl|true=>rw[beq_iff_eq.mp q,hd]at h;exact nn h
section
variable{Z:Sy}{w:World}{gk:Str->AV->GK}{an:Nat->Bool}{n m:Nat}{ih:Ih}{L:Nat}{cs:Cs}{G:Nat->Addr}{s:Shared}{E:Value->Shared->Prop}
theorem rN.ns{h:Heap}{k:Nat}{a:Addr}(H:rN Z G k h es a):∃B,h.Ns a B/\∀x,match lk x es with|some y=>∃u,B (Z.nm x)=some u/\VR Z G k h y u|none=>B (Z.nm x)=none:=by
 refine bA H λ o dG ep ho hd hs hz hm=>?_;exact⟨λ x=>nsFind dG x,⟨o,dG,ep,ho,hd,hs,λ _=>rfl⟩,hm⟩
theorem cW{x:Nat}{y}{k}(h:rc Z.nm sc x y k=true):Z.nm x=y/\sc.names.lookup y=some k:=⟨bq<|aL h,bq<|aR h⟩
theorem a7.kx{k:Nat}(R:a7 Z G k L cs sc env){y}{q}(h:sc.names.lookup y=some q):env.kindOf y=some q:=(congrArg (λ s:Scope=>s.names.lookup y) R.scope).trans h
theorem a7.kf{k:Nat}(R:a7 Z G k L cs sc env):env.scope.kind=.function:=R.scope▸R.kind
theorem AP{x:Nat}{y}(h:TJ L x st=some (v,ab))(J:rc Z.nm sc x y .local=true)(hd:sc.names.lookup ("__debug__" :Str)=none)(R:a7 Z G st.nx L cs sc env)(S:SR Z w G st s.heap)(q:∀v',ab=st->VR Z G st.nx s.heap v v'->Q v' s):aD w A (eval (.Name y pos) env) Q E s:=by
 refine aX h λ es B h=>aX h λ Gd hv h=>?_;refine xA (sP h) λ z0 z1=>?_;clear h;subst z0;refine a8 (rN.ns<|S.ob L _<|dz B) λ mm O hm=>?_;have:=hm x;rw[hv]at this;refine a8 this λ u hu hr=>xA (cW J) λ a b=>?_;exact wpAny_Name (wpAny_loadName_local R.kf (R.kx b) (R.locals▸O) (a▸hu)<|q _ z1.symm hr)<|qq b hd
theorem Bw{x:Nat}{y}(h:Ic cs x st=some (v,ab))(B:(rc Z.nm sc x y .cell||rc Z.nm sc x y .free)=true)(hd:sc.names.lookup ("__debug__" :Str)=none)(hc:(y==("__classdict__" :Str))=false)(R:a7 Z G st.nx L cs sc env)(S:SR Z w G st s.heap)(q:∀v',ab=st->VR Z G st.nx s.heap v v'->Q v' s):aD w A (eval (.Name y pos) env) Q E s:=by
 refine aX h λ c J h=>aX h λ o ho h=>aX h λ u O h=>aX h λ Gd hv h=>?_;rw[kL O,hv]at ho;refine xA (sP h) λ z0 z1=>?_;clear h;subst z0;refine cI (S.ob c _ ho) λ o ov ho _ uF hm=>xA (R.cells x c J) λ wb hl=>?_;cases ov with|none=>exact hm.elim|some val=>
  have cell:s.heap.IsCell (G c) (some val):=⟨o,ho,uF⟩;have fin:=q val z1.symm hm;rcases Bool.or_eq_true_iff.mp B with B|B<;>refine xA (cW B) λ a b=>?_
  .exact wpAny_Name (wpAny_loadName_cell R.kf (R.kx b) (a▸hl) cell fin) (qq b hd)
  .exact wpAny_Name (wpAny_loadName_free R.kf (R.kx b) (a▸hl) cell fin hc) (qq b hd)
theorem mJ{y}{u}(ρ:yM Z gk)(B:sc.names.lookup y=some .globalImplicit)(hg:(match gk y u with|.no=>false|_=>true)=true)(hd:sc.names.lookup ("__debug__" :Str)=none){k:Nat}(R:a7 Z G k L cs sc env)(hr:Ready w s.heap)(q:∀v',(∀G n,VR Z G n s.heap u v')->Q v' s):aD w A (eval (.Name y pos) env) Q E s:=by
 have g:=ρ w s.heap hr y u;generalize gk y u=z at g hg;cases z with|mod=>exact a5 g λ mg u' J hm hv=>Name_function_global R.kf (R.kx B) (loadGlobal_global (mg:=mg) (R.globals▸J) hm<|q _ hv) (qq B hd)|blt=>exact bA g λ mg mb u' J hm hb O hv=>Name_function_global R.kf (R.kx B) (loadGlobal_builtin (mg:=mg) (mb:=mb) (R.globals▸J) hm (R.builtins▸hb) O<|q _ hv) (qq B hd)|no=>exact ff hg
end
def Cb(b:Bool)(P:Prop):Prop:=match b with|true=>True|false=>P
theorem W7{b:Bool}{P:Prop}(h:Cb b P)(n:b=false):P:=by rw[n]at h;exact h
structure Ord(e:PySem.Expr):Prop where
 star:Cb (Nat.beq e.ctorIdx 22) (∀l env,starEach (e::l) env=(false,eval e env)::starEach l env)
 abs:Cb (Nat.beq e.ctorIdx 16) (∀a env w,attributeBase e a env w=w)
 fold:Cb (Nat.beq e.ctorIdx 7) (∀env x,foldedSetIterable e env x=pure x)
 sub:Cb (Nat.beq e.ctorIdx 26) (∀u v,subscripted e false u v=operate [u,v] (getItem u v))
 aug:Cb (Nat.beq e.ctorIdx 26) (∀ov iv new,augStore e ov iv new=(do holding [new,ov,iv] (setItem ov iv new);release [new,ov,iv] [];pure .next))
 call:Cb (Nat.beq e.ctorIdx 20) (∀l pos env,eval (.Call e l [] pos) env=(eval e env>>=λ fv=>callWith pos fv [] (backTo pos<|starEach l env) []))
 swap:Cb ([7,8,9,10].any (Nat.beq e.ctorIdx)) (∀t ln env,swapsWith e t ln env=pure false)
 sto:Cb (Nat.beq e.ctorIdx 25) (∀ts c p env,swappedStores [.Tuple ts c p] e env=pure none)
 sat:∀o y p env,swappedStores [.Attribute o y p] e env=pure none
 VD:∀y p env,swappedStores [.Name y p] e env=pure none
 ssb:∀o k p ln env,swapsWith e (some<|.Subscript o k p) ln env=pure false
 swa:∀o y p ln env,swapsWithSole [.Attribute o y p] e ln env=pure false
 cal:∀x l ks p a env w,attributeBase (.Call e (x::l) ks p) a env w=w
 tru:Cb ([0,3,5,15].any (Nat.beq e.ctorIdx)) (∀env w,isTrue e env w=(do let v<-w;standAt e.pos;holding [v] (truthy v)))
theorem ord(e:PySem.Expr):Ord e:=by
 cases e<;>(refine⟨?_,?_,?_,?_,?_,?_,?_,?_,λ o y p env=>Eq.refl<|pure none,λ y p env=>Eq.refl<|pure none,λ o k p ln env=>Eq.refl<|pure false,λ o y p ln env=>Eq.refl<|pure false,λ x l ks p a env w=>Eq.refl w,?_⟩<;>first|exact trivial|exactλ l env=>Eq.refl ((false,eval _ env)::starEach l env)|exactλ a env w=>Eq.refl w|exactλ env x=>Eq.refl (pure x)|exactλ u v=>Eq.refl (operate [u,v]<|getItem u v)|exactλ l pos env=>Eq.refl (eval _ env>>=λ fv=>callWith pos fv [] (backTo pos<|starEach l env) [])|exactλ t ln env=>Eq.refl (pure false)|exactλ ts c p env=>Eq.refl (pure none)|exactλ ov iv new=>Eq.refl (do holding [new,ov,iv] (setItem ov iv new);release [new,ov,iv] [];pure .next:Sem Flow)|exactλ env w=>Eq.refl (do let v<-w;standAt _;holding [v] (truthy v):Sem Bool))
theorem oC(ir:IE):Nat.beq (D4 ir) 22=false/\Nat.beq (D4 ir) 7=false/\Nat.beq (D4 ir) 26=false:=by cases ir<;>exact⟨rfl,rfl,rfl⟩
theorem sJ{N:Nat->Str}{gk:Str->AV->GK}{an:Nat->Bool}{n:Nat}{P:Prop}{b:Nat->Bool}(h:aE N gk an n sc ir e=true)(p:Cb (b e.ctorIdx) P)(z:b (D4 ir)=false):P:=W7 p<|(congrArg b<|Io _ _ _ h).trans z
def qD(Z:Sy)(w:World)(gk:Str->AV->GK)(an:Nat->Bool)(n:Nat)(f:Nat->Cs->List IE->St->Option (List AV×St)):Prop:=
 ∀{L cs B st vs ab},f L cs B st=some (vs,ab)->∀{m sc es},aV (aE Z.nm gk an m sc) B es=true->∀{A env G s},bt n A->a7 Z G st.nx L cs sc env->SR Z w G st s.heap->
  ∀{pos:Pos}{Q:List Value->Shared->Prop}{E:Value->Shared->Prop},(∀ay us s',cH Z w G st s ay ab s'->br Z ay ab.nx s'.heap vs us->Q us s')->
   aD w A (spliced<|backTo pos<|starEach es env) Q E s
def qE(f:Nat->Cs->List IE->St->Option (List AV×St)):Prop:=∀{L cs B st vs ab},f L cs B st=some (vs,ab)->vs.length=B.length
theorem zG{ih:Ih}{L:Nat}{cs}{e}{es}{r}(h:sa ih L cs (e::es) st=some r):bF (ih.E L cs e st) (λ v st=>bF (ih.Es L cs es st) λ vs st=>some (v::vs,st))=some r:=h
theorem wt{ih:Ih}(hl:qE ih.Es):qE (sa ih):=by
 intro L cs B st vs ab h;cases B with|nil=>exact sj h rfl|cons a B=>exact dR (zG h) λ O ac e1 h=>dR h λ O_ af J h=>sj h<|congrArg (· +1)<|hl J
variable{rest:List PySem.Expr}{f:I->β->Bool}{k':Nat}
section
variable{Z:Sy}{w:World}{gk:Str->AV->GK}{an:Nat->Bool}{n m:Nat}{ih:Ih}{L:Nat}{cs:Cs}{G:Nat->Addr}{s:Shared}{E:Value->Shared->Prop}
theorem qw{k:Nat}(h:aE Z.nm gk an k sc ir e=true):starEach (e::rest) env=(false,eval e env)::starEach rest env:=sJ (b:=(Nat.beq · 22)) h (ord e).star (oC ir).1 rest env
theorem bt.down{n:Nat}(r:bt (n+1) A):bt n A:=⟨r.handled,by have:=r.depth;lia,by have:=r.units;lia⟩
theorem HX(hE:jf Z w gk an n ih.E)(oH:qD Z w gk an n ih.Es):qD Z w gk an (n+1) (sa ih):=by
 intro L cs O st vs ab h m sc es hc A env G s r R S pos Q E q;cases O with
 |nil=>cases es with|nil=>exact wpAny_items_nil (sj (M:=λ vs ab=>(∀ay us s',cH Z w G st s ay ab s'->br Z ay ab.nx s'.heap vs us->Q us s')->Q [] s) h (λ q=>q G [] s (.refl S) .nil) q)|cons a l=>exact ff hc
 |cons a O=>cases es with|nil=>exact ff hc|cons b es=>exact dR (zG h) λ Gd ac e1 h=>dR h λ O_ af e2 h=>wpAny_items_cons (hE e1 (aL hc) r.down R S λ az u aq B r₁=>oH e2 (aR hc) r.down (R.kp B.kp) B.sr λ aa us ci J r₂=>
    q aa (u::us) ci (sj (M:=λ _ ab=>cH Z w G st s aa ab ci) h<|B.trans S J) (sj (M:=λ vs ab=>br Z aa ab.nx ci.heap vs (u::us)) h<|.cons (r₁.kp B.sr J.kp) r₂))<|qw<|aL hc
theorem db:∀l:List I,len l=l.length
 |[]=>rfl|_::l=>by simp[len,db l]
theorem c_:∀{k:List I}{l:List β},aV f k l=true->k.length=l.length
 |[],[],_=>rfl|[],_::_,h=>by exact ff h|_::_,[],h=>by exact ff h|a::k,b::l,h=>by simp[c_ (Bool.and_eq_true_iff.mp h).2]
theorem cm{h:Heap}(r:Ready w h):1358<=h.objs.size:=dJ r.Yx
theorem ef(h:Heap):h.get? h.objs.size=none:=by cases q:h.get? h.objs.size with|none=>rfl|some o=>exact absurd (dJ q)<|Nat.lt_irrefl _
theorem bP(h:Heap)(ob:Obj):∀b o,h.get? b=some o->(h.push ob).get? b=some o:=λ b o e=>Heap.get?_push_of_some _ e
theorem br.push{h:Heap}{k:Nat}(V:br Z G k h xs us)(B:k<=k')(e:∀i,i<k->ay i=G i)(ob:Obj):br Z ay k' (h.push ob) xs us:=V.keeps B e λ a o _ _ z _ _=>bP h ob a o z
theorem De(S:SR Z w G st s.heap)(V:br Z G st.nx s.heap xs us)(hx:xs.length<=10000)(hl:1358<=s.heap.objs.size):
  ∃ay,cH Z w G st s ay (a_ (.list xs) st) {s with heap:=s.heap.push {cls:=.type "list",data:=.seq us.toArray}}/\ay st.nx=s.heap.objs.size:=
 du (S.a_ (o:=.list xs) (ef _) hl (bP _ _)<|λ ay same=>⟨us,0,Heap.get?_push_size _ rfl,V.push (bW _) same _,hx⟩) λ ay e same B K=>⟨ay,⟨⟨_,s.toks,rfl⟩,B,K⟩,e⟩
theorem cH.VK(S:SR Z w G st s.heap)(o:Obj):cH Z w G st s G st {s with heap:=s.heap.push o}:=xA (S.more<|bP _ o) λ B K=>⟨⟨_,s.toks,rfl⟩,B,K⟩
theorem jO(S:SR Z w G st s.heap){x}(V:br Z G st.nx s.heap xs us)(hx:xs.length<=10000)(e:new (.list xs) st=some (x,ab))(q:Kt Z w G st s Q x ab):
  Q (.ref s.heap.objs.size) {s with heap:=s.heap.push {cls:=.type "list",data:=.seq us.toArray}}:=
 a8 (De S V hx<|cm S.ready) λ ay a c=>c▸sj (M:=λ x ab=>Kt Z w G st s Q x ab->Q (.ref<|ay st.nx) _) e (λ q=>q ay _ _ a<|.r _<|bZ _) q
theorem Kt.lY(S:SR Z w G st s.heap)(a:cH Z w G st s az ac aq)(q:Kt Z w G st s Q v ab):Kt Z w az ac aq Q v ab:=λ ay v' s' b V=>q ay v' s' (a.trans S b) V
theorem EE(J:qE ih.Es){es}{vs:List AV}{k:Nat}{h}(B:ih.Es L cs es st=some (vs,ac))(hl:Nat.ble (len es) 100=true)(V:br Z G k h vs us):vs.length<=100/\us.length<=sizeLine:=by
 have h:vs.length<=100:=J B▸db es▸dY hl;exact⟨h,V.1▸sizeLine_eq▸ae h (by simp)⟩
theorem Cf{es}{l}{k:Nat}(O:qD Z w gk an n ih.Es)(hL:qE ih.Es)(h:MS ih L cs es st=some (v,ab))(hc:aV (aE Z.nm gk an m sc) es l=true)(hl:Nat.ble (len es) 100=true)(r:bt n A)(R:a7 Z G st.nx L cs sc env)(S:SR Z w G st s.heap)(q:Kt Z w G st s Q v ab):aD w A (eval (.Tuple l k pos) env) Q E s:=by
 refine dR h λ vs ac J h=>wpAny_Tuple<|O J hc r R S λ az us aq B V=>⟨(EE hL J hl V).2,?_⟩;exact q.eq h az _ _ (B.trans S<|.VK B.sr _)<|.t vs us _ _ 0 (Heap.get?_push_size _ rfl) rfl rfl V.1 (V.push (a9 _) (λ _ _=>rfl) _).2
theorem AQ{es}{l}(hE:qD Z w gk an n ih.Es)(hL:qE ih.Es)(h:Op ih L cs es st=some (v,ab))(hc:aV (aE Z.nm gk an m sc) es l=true)(hl:Nat.ble (len es) 100=true)(r:bt n A)(R:a7 Z G st.nx L cs sc env)(S:SR Z w G st s.heap)(q:Kt Z w G st s Q v ab):aD w A (eval (.List l pos) env) Q E s:=
 dR h λ vs ac J h=>wpAny_List<|hE J hc r R S λ az us aq B V=>xA (EE hL J hl V) λ O b2=>⟨b2,jO B.sr V (ae O (by simp)) h<|q.lY S B⟩
end
def KF(P:Params):bg:=[(45,aj (lI P) 45),(66,aj (QL P) 66),(85,aj (QF P) 85),(104,aj (V4 P) 104),(123,aj (QD P) 123),(142,aj (QC P) 142),(162,aj (OA P) 162),(225,aj (FN P) 225),(583,aj (lI P) 583),(604,aj (qQ P) 604),(701,aj (vE P) 701),(785,aj (GX P) 785),(809,aj (qP P) 809),(986,aj (vD P) 986),(1106,aj (jY P) 1106),(1135,aj (qN P) 1135),(1282,aj (sO P) 1282),(44,aj (lI P) 44),(65,aj (QL P) 65),(84,aj (QF P) 84),(103,aj (V4 P) 103),(122,aj (QD P) 122),(141,aj (QC P) 141),(161,aj (OA P) 161),(224,aj (FN P) 224),(582,aj (lI P) 582),(603,aj (qQ P) 603),(700,aj (vE P) 700),(784,aj (GX P) 784),(808,aj (qP P) 808),(985,aj (vD P) 985),(1105,aj (jY P) 1105),(1134,aj (qN P) 1134),(1281,aj (sO P) 1281),(2,aj (lI P) 2),(28,aj (V6 P) 28),(42,aj (V6 P) 42),(63,aj (QL P) 63),(82,aj (QF P) 82),(120,aj (QD P) 120),(139,aj (QC P) 139),(152,aj (OA P) 152),(159,aj (OA P) 159),(180,aj (FN P) 180),(187,aj (FN P) 187),(194,aj (FN P) 194),(201,aj (FN P) 201),(215,aj (FN P) 215),(222,aj (FN P) 222),(250,aj (Oz P) 250),(257,aj (Oz P) 257),(264,aj (Oz P) 264),(271,aj (Oz P) 271),(384,aj (AB P) 384),(391,aj (AB P) 391),(398,aj (AB P) 398),(405,aj (AB P) 405),(412,aj (xF P) 412),(419,aj (xF P) 419),(424,aj (xF P) 424),(453,aj (xF P) 453),(467,aj (xF P) 467),(531,aj (Lq P) 531),(538,aj (AA P) 538),(552,aj (AA P) 552),(559,aj (AA P) 559),(566,aj (AA P) 566),(580,aj (Lp P) 580),(601,aj (qQ P) 601),(615,aj (qQ P) 615),(622,aj (qQ P) 622),(629,aj (qQ P) 629),(636,aj (qQ P) 636),(643,aj (qQ P) 643),(650,aj (vF P) 650),(651,aj (vF P) 651),(656,aj (vF P) 656),(663,aj (vF P) 663),(670,aj (vF P) 670),(677,aj (vF P) 677),(691,aj (vE P) 691),(698,aj (vE P) 698),(712,aj (vE P) 712),(719,aj (vE P) 719),(740,aj (GY P) 740),(747,aj (GY P) 747),(763,aj (lI P) 763),(764,aj (lI P) 764),(788,aj (Lo P) 788),(791,aj (Ln P) 791),(792,aj (qP P) 792),(806,aj (qP P) 806),(816,aj (qP P) 816),(823,aj (qP P) 823),(830,aj (qP P) 830),(837,aj (qP P) 837),(844,aj (mz P) 844),(851,aj (mz P) 851),(858,aj (mz P) 858),(872,aj (mz P) 872),(879,aj (mz P) 879),(886,aj (mz P) 886),(893,aj (mz P) 893),(900,aj (mz P) 900),(907,aj (mz P) 907),(908,aj (mz P) 908),(913,aj (mz P) 913),(920,aj (qO P) 920),(927,aj (qO P) 927),(934,aj (qO P) 934),(941,aj (qO P) 941),(948,aj (qO P) 948),(955,aj (qO P) 955),(962,aj (qO P) 962),(969,aj (qO P) 969),(997,aj (vD P) 997),(1002,aj (vD P) 1002),(1009,aj (vD P) 1009),(1014,aj (vD P) 1014),(1028,aj (jY P) 1028),(1035,aj (jY P) 1035),(1042,aj (jY P) 1042),(1049,aj (jY P) 1049),(1056,aj (jY P) 1056),(1061,aj (jY P) 1061),(1068,aj (jY P) 1068),(1075,aj (jY P) 1075),(1082,aj (jY P) 1082),(1089,aj (jY P) 1089),(1096,aj (jY P) 1096),(1103,aj (jY P) 1103),(1117,aj (qN P) 1117),(1125,aj (qN P) 1125),(1132,aj (qN P) 1132),(1146,aj (qN P) 1146),(1153,aj (qN P) 1153),(1160,aj (qN P) 1160),(1167,aj (pA P) 1167),(1174,aj (pA P) 1174),(1181,aj (pA P) 1181),(1188,aj (pA P) 1188),(1195,aj (pA P) 1195),(1202,aj (pA P) 1202),(1209,aj (pA P) 1209),(1216,aj (pA P) 1216),(1223,aj (pA P) 1223),(1237,aj (sO P) 1237),(1244,aj (sO P) 1244),(1258,aj (sO P) 1258),(1272,aj (sO P) 1272),(1279,aj (sO P) 1279),(1293,aj (jX P) 1293),(1300,aj (jX P) 1300),(1301,aj (jX P) 1301),(1302,aj (jX P) 1302),(1303,aj (jX P) 1303),(1304,aj (jX P) 1304),(1305,aj (jX P) 1305),(1312,aj (jX P) 1312),(1319,aj (jX P) 1319),(1324,aj (jX P) 1324),(1331,aj (jX P) 1331),(1338,aj (jX P) 1338),(1345,aj (jX P) 1345),(1350,aj (jX P) 1350)]
theorem Vo(P:Params):(KF P).map (λ p=>(Fj P).find? λ q=>Nat.beq q.1 p.1)=(KF P).map some:=by kernel_rfl
theorem tz{a:Nat}{o:I}:∀{l:List<|Nat×I},l.lookup a=some o->(a,o)∈l
 |[],h=>by exact nn h|p::l,h=>by
  rw[List.lookup_cons]at h;cases q:a==p.1 with
  |true=>rw[q]at h;obtain rfl:=sI h;rw[beq_iff_eq.mp q];exact .head _
  |false=>rw[q]at h;exact .tail _<|tz h
theorem mL{w:World}{h}(r:Ready w h):Frag.In (KF w.params) h:=λ a o e=>by
 have hm:=tz e;have:=List.map_inj_left.mp (Vo w.params) (a,o) hm;exact r.pR (a,o)<|jb this
structure rR(Z:Sy)(an:Nat->Bool):Prop where
 cls:∀P C,Z.ic C=true->∃cd,clsIn (KF P) C=some cd/\cd.hasDict=true
 get:∀P C,Z.ic C=true->findIn (KF P) (.ref C) "__getattribute__" =some (some<|.builtin "object.__getattribute__")
 set:∀P C,Z.ic C=true->findIn (KF P) (.ref C) "__setattr__" =some (some<|.builtin "object.__setattr__")
 over:∀P C,Z.ic C=true->plainOver (KF P) C=true
 hand:∀k,handedIn (.builtin<|Z.bn k)=true
 no:∀P C x,Z.ic C=true->an x=true->findIn (KF P) (.ref C) (Z.nm x)=some none
variable{dG:Array DictEntry}{ep:Nat}
theorem AN{o:Obj}{x}(hd:o.data=.dict dG ep)(h:nsFind dG x=some u):lookIn x o=some (some u):=by
 unfold lookIn;rw[hd];unfold nsFind findBy at h;rw[<-Array.find?_toList]at h;refine a8 (Option.map_eq_some_iff.mp h) λ O B J=>?_;subst J;dsimp only;rw[B]
theorem vY{o:Obj}{x}(hd:o.data=.dict dG ep)(hs:StrKeys dG)(h:nsFind dG x=none):lookIn x o=some none:=by
 unfold lookIn;rw[hd];unfold nsFind findBy at h;rw[<-Array.find?_toList]at h;have h:=Option.map_eq_none_iff.mp h;dsimp only;rw[h];have:dG.toList.any (λ e=>e.refKey)=false:=by
  rw[List.any_eq_false];intro e B;refine j_ (hs e (by simpa using B)) λ n t J=>?_;simp[DictEntry.refKey,J]
 rw[this];rfl
variable{name:Str}
theorem findObj_own{K}{C:Addr}{od}{cd:ClassData}{v}(hc:clsIn K C=some cd)(hd:cd.hasDict=true)(B:findIn K (.ref C) name=some none)(hl:lookIn name od=some (some v)):
  findObj K C (some od) name=some (.value v):=by
 unfold findObj PySem.W.ownOf;rw[hc,Option.bind_some,B,Option.bind_some];simp only[Option.bind_some,hd,if_true,hl]
variable{y:AV}
section
variable{Z:Sy}{w:World}{gk:Str->AV->GK}{an:Nat->Bool}{n m:Nat}{ih:Ih}{L:Nat}{cs:Cs}{G:Nat->Addr}{s:Shared}{E:Value->Shared->Prop}
theorem HG(C:rR Z an){k:Nat}{h}(V:VR Z G k h y u):handedIn u=true:=by
 induction V<;>first|rfl|exact C.hand _
inductive J3(Z:Sy)(w:World)(G:Nat->Addr)(n:Nat)(h:Heap)(j x:Nat)(p:Nat×Nat)(es:List<|Nat×AV):Prop
 |mk (o:Obj) (cd:ClassData) (dG:Array DictEntry) (ep:Nat) (α:InstAt h (G j) (instObj p.1<|G p.2) p.1<|some o) (c:clsIn (KF w.params) p.1=some cd) (d:cd.hasDict=true) (i:Z.ic p.1=true) (no:findIn (KF w.params) (.ref p.1) (Z.nm x)=some none)
  (ho:h.get? (G p.2)=some o) (hd:o.data=.dict dG ep) (hs:StrKeys dG) (hz:dG.size<=es.length) (hm:∀k,match lk k es with|some x=>∃v,nsFind dG (Z.nm k)=some v/\VR Z G n h x v|none=>nsFind dG (Z.nm k)=none):J3 Z w G n h j x p es
theorem CY(C:rR Z an)(S:SR Z w G st s.heap){x:Nat}{p:Nat×Nat}(hp:ownOf st j=some p)(he:nU st p.2=some es)(hx:an x=true):J3 Z w G st.nx s.heap j x p es:=
 ib (S.ob j _<|pn hp) λ hd hi B=>bA (S.ob p.2 _<|dz he) λ o dG ep ho J hs hz hm=>a8 (C.cls w.params p.1 B) λ cd O wd=>⟨o,cd,dG,ep,⟨hi,rfl,rfl,ho⟩,O,wd,B,C.no _ _ _ B hx,ho,J,hs,hz,hm⟩
theorem kG{o}{x:Nat}{expr:Bool}(C:rR Z an)(h:yh o x st=some y)(hx:an x=true)(S:SR Z w G st s.heap)(V:VR Z G st.nx s.heap o u)(q:∀v' t,VR Z G st.nx s.heap y v'->Q v' {s with toks:=t}):aD w A (getAttr u (Z.nm x) expr) Q E s:=by
 refine jW h V λ j hj h=>aX h λ p hp h1=>aX h1 λ es he h2=>?_;refine(CY C S hp he hx).rec λ o cd dG ep α O wd ye J ho B hs hz hm=>?_;have:=hm x;rw[h2]at this;exact a8 this λ u hu hv=>get_value (mL S.ready) α (C.get _ _ ye) (findObj_own O wd J<|AN B hu) (HG C hv)<|q _ _ hv
end
theorem eJ(k:Nat)(p:Nat×I)(l:List<|Nat×I):lk k (p::l)=if p.1=k then some p.2 else lk k l:=by
 show Bool.rec (motive:=λ _=>Option I) (lk k l) (some p.2) (Nat.beq p.1 k)=_;rw[TR.i8];by_cases h:p.1=k<;>simp[h]
theorem vo(k:Nat)(v:I)(p:Nat×I)(l:List<|Nat×I):dL k v (p::l)=if p.1=k then(k,v)::l else p::dL k v l:=by
 show Bool.rec (motive:=λ _=>List<|Nat×I) (p::dL k v l) ((k,v)::l) (Nat.beq p.1 k)=_;rw[TR.i8];by_cases h:p.1=k<;>simp[h]
theorem cw(x:Nat)(y:I):∀(es:List<|Nat×I)(k:Nat),lk k (dL x y es)=if k=x then some y else lk k es
 |[],k=>by
  show lk k [(x,y)]=if k=x then some y else none
  rw[eJ];by_cases h:x=k
  .rw[if_pos h,if_pos h.symm]
  .rw[if_neg h,if_neg<|Ne.symm h];rfl
 |p::l,k=>by
  rw[vo,eJ];by_cases h:p.1=x
  .rw[if_pos h,eJ,h];by_cases q:x=k
   .rw[if_pos q,if_pos q.symm]
   .rw[if_neg q,if_neg<|Ne.symm q,if_neg q]
  .rw[if_neg h,eJ,cw x y l k];by_cases q:p.1=k
   .have:¬k=x:=λ z=>h<|q.trans z;rw[if_pos q,if_neg this,if_pos q]
   .rw[if_neg q,if_neg q]
theorem oo(x:Nat)(y:I):∀es:List<|Nat×I,(dL x y es).length=if(lk x es).isSome then es.length else es.length+1
 |[]=>rfl|p::l=>by
  rw[vo,eJ];by_cases h:p.1=x
  .simp[h]
  .simp only[if_neg h,List.length_cons,oo x y l];split<;>rfl
def bB(Z:Sy):Prop:=∀i j,Z.nm i=Z.nm j->i=j
section
variable{Z:Sy}{w:World}{M:Model}{G:Nat->Addr}{s:Shared}{E:Value->Shared->Prop}
theorem zc{k:Nat}{a:Addr}{x:Nat}{v}{Q:Unit->Shared->Prop}(α:bB Z)(N:rN Z G k s.heap es a)(V:VR Z G k s.heap y v)(h:∀h',rN Z G k h' (dL x y es) a->Heap.SameBut a s.heap h'->Q () {s with heap:=h',toks:=s.toks+1}):wpAny M A (nsSet a (Z.nm x) v) Q E s:=by
 refine bA N λ o dG ep ho hd hk hz hm=>?_;intro Γ p _;show Sem.wp M Γ _ _ _ p s;simp only[nsSet,strHash,Sem.wp_bind',Sem.wp_cmd_ask,Sem.wp_pure',Sem.wp_cmd_mkText];rw[Sem.wp_loadPart_of M Γ _ p {s with toks:=s.toks+1} (o:=o) _ ho];have Mn:dG.any (·.refKey)=false:=by
  rw[Array.any_eq_false'];intro e J;refine j_ (hk e J) λ n t h=>?_;simp[DictEntry.refKey,h]
 simp only[hd,aRefKeyMayBeTheName_eq,aRefKeyMayBeTheNameByArray,Mn,Bool.and_false,Bool.false_eq_true,if_false,Sem.wp_cmd_updatePart];refine⟨by rw[ho];rfl,h _ ?_<|Heap.SameBut.update ..⟩;have tup:∀f:Obj->Obj,bh s.heap (s.heap.update a f):=λ f b ob ws m O hc Mj=>((Heap.SameBut.update s.heap a f).2 b λ z=>by subst z;rw[ho]at O;obtain rfl:=sI O;rw[hd]at Mj;cases Mj).trans O;obtain⟨c,d,dt,sl⟩:=o;subst hd;have fin:∀(B:Array DictEntry)(f:Obj->Obj),(∀z,nsFind B z=if z=Z.nm x then some v else nsFind dG z)->∀q,match lk q (dL x y es)with
   |some u=>∃v',nsFind B (Z.nm q)=some v'/\VR Z G k (s.heap.update a f) u v'|none=>nsFind B (Z.nm q)=none:=λ B f hf q=>by
  rw[cw];by_cases e:q=x
  .subst e;rw[if_pos rfl];exact⟨v,by rw[hf,if_pos rfl],V.keeps (a9 _) (λ _ _=>rfl)<|tup f⟩
  .rw[if_neg e,hf,if_neg λ z=>e<|α _ _ z];have:=hm q;split<;>rename_i z<;>rw[z]at this
   .refine a8 this λ v' a1 a2=>?_;exact⟨v',a1,a2.keeps (a9 _) (λ _ _=>rfl)<|tup f⟩
   .exact this
 cases hi:dG.findIdx? (·.key.isStr (Z.nm x))with
 |some i=>
  refine⟨_,_,ep,Heap.get?_update_self _ ho (by simp only[Obj.putName_eq,Obj.putNameByArray,hi];rfl),by simp only[Obj.putName_eq,Obj.putNameByArray,hi];rfl,hk.modify _ _,?_,fin _ _ λ z=>?_⟩
  .rw[Array.size_modify,oo];split<;>(first|assumption|exact de (by assumption))
  .exact findBy_modify (λ n v=>v.isStr n) Value.isStr_inj dG (Z.nm x) z v i hi
 |none=>
  have hn:lk x es=none:=by
   have:=hm x;split at this<;>rename_i z
   .refine a8 this λ v' a1 _=>?_;unfold nsFind findBy at a1;refine a8 (Option.map_eq_some_iff.mp a1) λ en J _=>?_;have h1:=Array.findIdx?_eq_none_iff.mp hi en<|Array.mem_of_find?_eq_some J;have h2:=Array.find?_some J;have h2:en.key.isStr (Z.nm x)=true:=h2;rw[h1]at h2;exact ff h2
   .exact z
  refine⟨_,_,ep+1,Heap.get?_update_self _ ho (by simp only[Obj.putName_eq,Obj.putNameByArray,hi];rfl),by simp only[Obj.putName_eq,Obj.putNameByArray,hi];rfl,hk.push _ _ _ _,?_,fin _ _ λ z=>?_⟩
  .rw[Array.size_push,oo,hn];simp;exact hz
  .exact findBy_push (λ n v=>v.isStr n) dG (Z.nm x) z _ _ v (λ y=>by
    show(Z.nm x==y)=decide (y=Z.nm x);by_cases h:y=Z.nm x
    .subst h;rfl
    .have:¬Z.nm x=y:=λ e=>h e.symm;simp[h,this]) hi
end
open PySem.Builtin PySem.Builtin.ObjectAttr
section
variable{Z:Sy}{w:World}{gk:Str->AV->GK}{an:Nat->Bool}{n m:Nat}{ih:Ih}{L:Nat}{cs:Cs}{G:Nat->Addr}{s:Shared}{E:Value->Shared->Prop}
theorem oU{o}{v'}{x:Nat}{Q:Unit->Shared->Prop}(C:rR Z an)(α:bB Z)(h:gj o x y st=some ab)(hx:an x=true)(S:SR Z w G st s.heap)(U:VR Z G st.nx s.heap o u)(V':VR Z G st.nx s.heap y v')(q:Ku Z w G st s Q ab):
  aD w A (setAttr u (Z.nm x) v') Q E s:=by
 refine jW h U λ j hj h=>aX h λ p hp h1=>aX h1 λ es he h2=>AW h2 λ hle h2=>?_;refine(CY C S hp he hx).rec λ o cd dG ep J Sk wd ye Mf ho HC hs hz hm=>?_;have X:=mL S.ready;refine set_plain X J (C.set _ _ ye)<|osa_open (s:={s with toks:=s.toks+1}) (r:=none) X J (C.over _ _ ye) (by unfold takerIn;rw[Mf];rfl) λ b=>?_;refine ah<|ax<|ah<|ah<|wpAny_loadPart J.1<|ah<|looks_clsIn X Sk _ _ _ _ (λ _ _ e=>e) ?_;rw[wd];refine wpAny_pure (a:=some<|G p.2)<|ah<|ax<|ah<|zc (k:=st.nx) (G:=G) α ⟨o,dG,ep,ho,HC,hs,hz,hm⟩ V' λ h' O B=>?_;refine cQ O λ o' EH II oF Zs uD r=>ah (wpAny_lookBehind oF ?_ ?_)
 .rw[Zs];refine pastItsLine_dict ?_;have:=oo x y es;rw[db]at hle;have r:=r.1;rw[sizeLine_eq];split at this<;>lia
 .exact xA (S.im (o':=.ns<|dL x y es) (dz he) B λ _=>O) λ S' K=>gH (M:=λ ab=>Ku Z w G st s Q ab->_) h2 (λ q=>ax<|q _ ⟨⟨_,_,rfl⟩,S',K⟩) q
end
open PySem.SeqAt
theorem py(m n:Nat):Nat.blt m n=decide (m<n):=by
 by_cases h:m<n
 .rw[decide_eq_true h];exact Nat.ble_eq_true_of_le h
 .rw[decide_eq_false h];cases q:Nat.blt m n with|false=>rfl|true=>exact absurd (dY q) h
theorem ble_eq(m n:Nat):Nat.ble m n=decide (m<=n):=by
 by_cases h:m<=n
 .rw[decide_eq_true h];exact Nat.ble_eq_true_of_le h
 .rw[decide_eq_false h];cases q:Nat.ble m n with|false=>rfl|true=>exact absurd (dY q) h
theorem i7{p q:Prop}[Decidable p][Decidable q](h:p↔q):decide p=decide q:=by
 by_cases z:p
 .rw[decide_eq_true z,decide_eq_true<|h.mp z]
 .rw[decide_eq_false z,decide_eq_false λ y=>z<|h.mpr y]
theorem IN(a b:Int):gg a b=decide (a<b):=by
 cases a with
 |ofNat m=>
  cases b with|ofNat n=>exact(py m n).trans (i7 ⟨λ h=>by show(m:Int)<n;lia,λ h=>by have:(m:Int)<n:=h;lia⟩)|negSucc n=>exact(decide_eq_false (by show¬((m:Int)<Int.negSucc n);exactλ h=>nomatch h)).symm
 |negSucc m=>
  cases b with|ofNat n=>exact(decide_eq_true (by show Int.negSucc m<(n:Int);lia)).symm|negSucc n=>exact(py n m).trans<|i7 ⟨λ h=>by lia,λ h=>by lia⟩
theorem UV(a b:Int):WF a b=decide (a<=b):=by
 cases a with
 |ofNat m=>
  cases b with|ofNat n=>exact(ble_eq m n).trans (i7 ⟨λ h=>by show(m:Int)<=n;lia,λ h=>by have:(m:Int)<=n:=h;lia⟩)|negSucc n=>exact(decide_eq_false (by show¬((m:Int)<=Int.negSucc n);lia)).symm
 |negSucc m=>
  cases b with|ofNat n=>exact(decide_eq_true (by show Int.negSucc m<=(n:Int);lia)).symm|negSucc n=>exact(ble_eq n m).trans<|i7 ⟨λ h=>by lia,λ h=>by lia⟩
theorem rs(a b:Int):wf a b=decide (a=b):=by
 have h:wf a b=true↔a=b:=PySem.W.Z.eqB_iff a b;by_cases q:a=b
 .rw[decide_eq_true q,h.mpr q]
 .rw[decide_eq_false q];cases z:wf a b with|false=>rfl|true=>exact absurd (h.mp z) q
structure fi(Z:Sy)(X:Env):Prop where
 z0:Z.σ 0=0
 ord:∀v w,0<v->v<w->w<900->Z.σ v<Z.σ w
 low:∀v,0<v->v<900->X.L0<Z.σ v
 high:∀v,v<900->Z.σ v<=90000
 free:∀v,900<=v->v<1800->0<=Z.σ v/\Z.σ v<=5000
 cr:∀v m x,X.cr v m=some x->m≠0/\(Z.σ v).emod m=x
 cat:∀q∈X.cat,Z.nm q.2.2=Z.nm q.1++Z.nm q.2.1/\(Z.nm q.1).length≠0/\(Z.nm q.2.1).length≠0/\(Z.nm q.1).length+(Z.nm q.2.1).length<=1000
 seg:∀k,(Z.τ k).length<=10000
theorem fi.Rk{Z:Sy}{X}(H:fi Z X){v:Nat}(h:v<1800):Wa X v<=Z.σ v/\Z.σ v<=Wl v:=by
 unfold Wa Wl;rw[TR.i8,py];by_cases B:v=0
 .rw[B,H.z0];exact⟨Int.le_refl 0,Int.le_refl 0⟩
 .rw[decide_eq_false B];by_cases h1:v<900
  .rw[decide_eq_true h1];exact⟨H.low v (Nat.pos_of_ne_zero B) h1,H.high v h1⟩
  .rw[decide_eq_false h1];exact H.free v (Nat.not_lt.mp h1) h
theorem Yq{a b:Int}{x:Option β}{r:β}{P:Prop}(e:cj (gg a b) x=some r)(k:a<b->x=some r->P):P:=kW e λ h=>k<|ft<|IN a b▸h
theorem Hm{a b:Int}{x:Option β}{r:β}{P:Prop}(e:cj (WF a b) x=some r)(k:a<=b->x=some r->P):P:=kW e λ h=>k<|ft<|UV a b▸h
theorem Zb{p:Prop}[Decidable p]{b:Bool}(e:some true=some b)(h:p):b=decide p:=(sI e).symm.trans (decide_eq_true h).symm
theorem Jr{p:Prop}[Decidable p]{b:Bool}(e:some false=some b)(h:¬p):b=decide p:=(sI e).symm.trans (decide_eq_false h).symm
theorem iw{Z:Sy}{X}(H:fi Z X){v w:Nat}{o p:Int}{b:Bool}(h:TW X v o w p=some b):b=decide (Z.σ v+o<Z.σ w+p):=by
 refine jc h (λ h=>nY h λ h=>(sI h).symm.trans<|(IN o p).trans<|i7 (Int.add_lt_add_iff_left _).symm) λ h=>AK h λ hv h=>AK h λ B h=>?_;refine xA (H.Rk hv) λ v1 v2=>xA (H.Rk B) λ w1 O=>?_;refine jc h (λ h=>Yq h λ q h=>Zb h<|Int.lt_of_le_of_lt (Int.add_le_add_right v2 o)<|Int.lt_of_lt_of_le q<|Int.add_le_add_right w1 p) λ h=>
  jc h (λ h=>Hm h λ q h=>Jr h<|Int.not_lt.mpr<|cX (Int.add_le_add_right O p)<|cX q<|Int.add_le_add_right v1 o) λ h=>?_
 refine AK h λ v0 h=>AK h λ w0 h=>AK h λ J h=>AK h λ w9 h=>?_;exact jc h (λ h=>AK h λ l h=>Hm h λ q h=>Zb h<|Int.add_lt_add_of_lt_of_le (H.ord v w v0 l w9) q) λ h=>AK h λ l h=>Hm h λ q h=>Jr h<|Int.not_lt.mpr<|Int.add_le_add (Int.le_of_lt<|H.ord w v w0 l J) q
theorem rF{Z:Sy}{X}(H:fi Z X){v w:Nat}{o p:Int}{b:Bool}(h:WD X v o w p=some b):b=decide (Z.σ v+o=Z.σ w+p):=
 jc h (λ h=>nY h λ h=>(sI h).symm.trans<|(rs o p).trans<|i7 (Int.add_right_inj _).symm) λ h=>
  jc h (λ h=>aX h λ c e h=>kW h λ q h=>Jr h<|Int.ne_of_lt<|ft<|(iw H e).symm.trans q) λ h=>aX h λ c e h=>kW h λ q h=>Jr h<|Int.ne_of_gt<|ft<|(iw H e).symm.trans q
noncomputable def Gi:Value->Value->Bool
 |.int a _,.int b _=>a==b|.str a _,.str b _=>a==b|_,_=>false
section
variable{Z:Sy}{X:Env}{w:World}{G:Nat->Addr}{s:Shared}{n:Nat}{h:Heap}
structure EqR(A:Around)(s:Shared)(u v:Value)(b:Bool):Prop where
 q:Gi u v=b
 e:RcAt A s u v b
 n:RcNeAt A s u v (!b)
 a:EqAt A s u v b
theorem mN(H:fi Z X)(α:bB Z){a c}{v}{b:Bool}(e:H2 X a c=some b)(U:VR Z G n h a u)(V:VR Z G n h c v):EqR A s u v b:=by
 refine jc e (λ e=>gY e U λ _ _ _ e=>jc e (λ e=>gY e V λ _ _ _ e=>?_) λ e=>GS e V λ e=>gH e ⟨rfl,RcAt.int_none _ _,RcNeAt.int_none _ _,EqAt.int_none _ _⟩) λ e=>
  jc e (λ e=>Ay e U λ j _ e=>Ay e V λ k _ e=>?_) λ e=>GS e U λ e=>gY e V λ _ _ _ e=>gH e ⟨rfl,RcAt.none_int _ _,RcNeAt.none_int _ _,EqAt.none_int _ _⟩
 .exact rF H e▸⟨rfl,RcAt.int_int _ _ _ _,RcNeAt.int_int _ _ _ _,EqAt.int_int _ _ _ _⟩
 .have:b=(Z.nm j==Z.nm k):=(sI e).symm.trans<|Bool.eq_iff_iff.mpr ⟨λ h=>beq_iff_eq.mpr<|congrArg _<|bC h,λ h=>α _ _ (beq_iff_eq.mp h)▸Nat.beq_refl _⟩;exact this▸⟨rfl,RcAt.str_str _ _ _ _,RcNeAt.str_str _ _ _ _,EqAt.str_str _ _ _ _⟩
theorem br.nil_of(V:br Z G n h [] us):us=[]:=eU V.1.symm
theorem Zc{l:List Value}{b:Bool}(h:l.length=0↔b=true):l.toArray.isEmpty=b:=by
 cases l with|nil=>exact(h.mp rfl).symm|cons a l=>cases b with|false=>rfl|true=>exact nomatch h.mpr rfl
structure nL(h:Heap)(a:Addr)(x:Bool)(it:Array Value):Prop where
 l:h.IsList a it
 n:it.size<=20000
 e:it.isEmpty=x
theorem iX(H:fi Z X)(S:SR Z w G st h){x:Bool}(e:g_ st.T j=some x):∃it,nL h (G j) x it:=aX e λ o ho e=>by
 refine Ny (M:=λ o=>OR Z w G st.nx h (G j) o->_) e (λ xs e R=>?_) (λ p k lv q e R=>?_) (S.ob j o ho)
 .refine a5 R λ ws m g V l=>⟨ws.toArray,⟨_,g,rfl,m,rfl⟩,ae (V.1▸l) (by simp),?_⟩;cases xs with|nil=>exact gH e (Zc (by rw[V.nil_of];exact⟨λ _=>rfl,λ _=>rfl⟩))|cons a l=>exact gH e (Zc ⟨λ z=>(nomatch V.1.trans z),λ z=>nomatch z⟩)
 .refine bA R λ ps qs m g P Q _ l=>⟨(ps++Z.τ k++qs).toArray,⟨_,g,rfl,m,rfl⟩,?_,?_⟩
  .have:=H.seg k;have:=P.1;have:=Q.1;simp only[List.size_toArray,List.length_append];lia
  .have key:some false=some x/\(p.length≠0\/q.length≠0):=jc e (λ e=>xB (M:=λ p=>_/\(p.length≠0\/q.length≠0)) e λ a l e=>⟨e,.inl<|Nat.succ_ne_zero _⟩) λ e=>xB (M:=λ q=>_/\(p.length≠0\/q.length≠0)) e λ a l e=>⟨e,.inr<|Nat.succ_ne_zero _⟩;refine gH key.1<|Zc ⟨λ z=>?_,λ z=>nomatch z⟩;have:=key.2;have:=P.1;have:=Q.1;rw[List.length_append,List.length_append]at z;lia
theorem nL.size{h}{a:Addr}{x:Bool}{it:Array Value}(L:nL h a x it):it.size=0↔x=true:=L.e▸Array.isEmpty_iff_size_eq_zero.symm
theorem Bk(H:fi Z X)(S:SR Z w G st s.heap){k:Nat}{b:Bool}(O:A.units<cLine)(e:WC st.T j k=some b):RcAt A s (.ref<|G j) (.ref<|G k) b/\RcNeAt A s (.ref<|G j) (.ref<|G k) (!b):=by
 refine aX e λ x hx e=>aX e λ y hy e=>xE (iX H S hx) λ xs lx=>xE (iX H S hy) λ ys ly=>?_;have J:((xs.size=0↔ys.size=0)->False)->RcAt A s (.ref<|G j) (.ref<|G k) false/\RcNeAt A s (.ref<|G j) (.ref<|G k) true:=λ z=>
  have d:(xs.size !=ys.size)=true:=bne_iff_ne.mpr λ q=>z (q▸.rfl)
  ⟨RcAt.lists_lengths lx.l ly.l d O,RcNeAt.lists_lengths lx.l ly.l d O⟩
 have sx:=lx.size;have sy:=ly.size;cases x with
 |true=>cases y with
  |true=>
   have B:=sx.mpr rfl;have r1:=RcAt.lists (A:=A) (s:=s) (e:=λ _=>true) lx.l ly.l (B.trans (sy.mpr rfl).symm) O λ j h1 _=>absurd h1<|B▸Nat.not_lt_zero j;have r2:=RcNeAt.lists (A:=A) (s:=s) (e:=λ _=>true) lx.l ly.l (B.trans (sy.mpr rfl).symm) O λ j h1 _=>absurd h1<|B▸Nat.not_lt_zero j;rw[B]at r1 r2;exact gH e ⟨r1,r2⟩
  |false=>exact gH e (J λ z=>nomatch sy.mp (z.mp<|sx.mpr rfl))
 |false=>exact kW e λ hy e=>gH e (J λ z=>nomatch sx.mp (z.mpr<|sy.mpr hy))
theorem qh(H:fi Z X)(α:bB Z):∀{xs ys:List AV}{ws us:List Value}{b:Bool},br Z G n h xs ws->br Z G n h ys us->EG X xs ys=some b->
  ws.length=us.length/\(∀(j:Nat)(h1:j<ws.length)(h2:j<us.length),EqAt A s ws[j] us[j] (Gi ws[j] us[j]))/\(List.range ws.length).all (λ j=>Gi (ws.getD j .none)<|us.getD j .none)=b
 |[],ys,ws,us,b,U,V,e=>by
  cases ys with|cons y ys=>exact nn e|nil=>rw[U.nil_of,V.nil_of];exact⟨rfl,λ j h1=>absurd h1<|Nat.not_lt_zero _,sI e⟩
 |x::xs,ys,ws,us,b,U,V,e=>by
  refine xB (M:=λ ys=>br Z G n h ys us->_) e (λ y ys e V=>aX e λ p e1 e=>aX e λ q e2 e=>?_) V;refine a5 U.gf λ w ws z2 r1 r2=>a5 V.gf λ u us z3 t1 t2=>z2▸z3▸ ?_;refine ib (qh H α r2 t2 e2) λ a1 J O=>?_;have B:=mN (A:=A) (s:=s) H α e1 r1 t1;refine⟨congrArg (· +1) a1,λ j h1 h2=>?_,?_⟩
  .cases j with|zero=>exact(show Gi w u=p from B.q)▸B.a|succ j=>exact J j (Nat.lt_of_succ_lt_succ h1) (Nat.lt_of_succ_lt_succ h2)
  .rw[List.length_cons,List.range_succ_eq_map,List.all_cons,List.all_map,<-sI e,<-O,<-B.q];rfl
theorem yk(H:fi Z X)(α:bB Z)(S:SR Z w G st s.heap){k:Nat}{b:Bool}(J:A.units<cLine)(e:MF X st.T j k=some b):RcAt A s (.ref<|G j) (.ref<|G k) b/\RcNeAt A s (.ref<|G j) (.ref<|G k) (!b):=by
 refine aX e λ xs e1 e=>aX e λ ys e2 e=>a5 (S.ob j _<|AL e1) λ ws m g U l=>a5 (S.ob k _<|AL e2) λ us m' g' V l'=>?_;have L:s.heap.IsList (G j) ws.toArray:=⟨_,g,rfl,m,rfl⟩;have B:s.heap.IsList (G k) us.toArray:=⟨_,g',rfl,m',rfl⟩;cases e3:Nat.beq (len xs) (len ys)with
 |false=>
  rw[e3]at e;rw[db,db]at e3;have:(ws.toArray.size !=us.toArray.size)=true:=bne_iff_ne.mpr λ z=>Nat.ne_of_beq_eq_false e3<|U.1.trans<|z.trans V.1.symm;exact gH e ⟨RcAt.lists_lengths L B this J,RcNeAt.lists_lengths L B this J⟩
 |true=>
  rw[e3]at e;refine ib (qh (A:=A.in1) (s:=s) H α U V e) λ a1 a2 a3=>?_;have O:∀(i:Nat)(h1:i<ws.toArray.size)(h2:i<us.toArray.size),EqAt A.in1 s ws.toArray[i] us.toArray[i] (Gi (ws.getD i .none)<|us.getD i .none):=λ i h1 h2=>by
   have:=a2 i h1 h2;rwa [<-List.getElem_eq_getD (h:=h1) .none,<-List.getElem_eq_getD (h:=h2) .none]
  have r1:=RcAt.lists (A:=A) (s:=s) L B a1 J O;have r2:=RcNeAt.lists (A:=A) (s:=s) L B a1 J O;rw[show ws.toArray.size=ws.length from rfl,a3]at r1 r2;exact⟨r1,r2⟩
theorem rD(H:fi Z X)(α:bB Z)(S:SR Z w G st s.heap){a c}{v}{b:Bool}(J:A.units<cLine)(e:Tr X st.T a c=some b)(U:VR Z G n h a u)(V:VR Z G n h c v):
  RcAt A s u v b/\RcNeAt A s u v (!b):=
 jc e (λ e=>jW e U λ j _ e=>jW e V λ k _ e=>jc e (Bk H S J)<|yk H α S J) λ e=>have B:=mN H α e U V;⟨B.e,B.n⟩
theorem fV(H:fi Z X)(S:SR Z w G st s.heap){a}{b:Bool}{Q:Bool->Shared->Prop}{E:Value->Shared->Prop}(e:bf st.T a=some b)(U:VR Z G n h a u)(q:∀t,Q b {s with toks:=t}):aD w A (truthy u) Q E s:=by
 cases a with|none=>exact U.Zd (ax<|sI e▸q s.toks)|b x=>exact(VR.un U:u=_)▸ax (sI e▸q s.toks)|r j=>exact U.inR λ _=>aX e λ x hx e=>xE (iX H S hx) λ xs L=>wpAny_truthy_list L.l (by have:=L.n;lia) (by rw[L.e,sI e];exact q _)|_=>exact nn e
end
section
variable{Z:Sy}{X:Env}{w:World}{G:Nat->Addr}{s:Shared}{n:Nat}{h:Heap}{K:Type}[DecidableEq K]
def J5(X:Env)(R:AV->K->Prop):Prop:=∀a b J B x,R a J->R b B->jT X 8 a b=some x->x=decide (J=B)
theorem cR(B κ:K)(v:Value)(l:List<|K×Value):valueAt ((B,v)::l) κ=if B=κ then some v else valueAt l κ:=by
 unfold valueAt;rw[List.find?_cons];by_cases h:B=κ
 .rw[if_pos h,decide_eq_true h];rfl
 .rw[if_neg h,decide_eq_false h]
noncomputable def putL(B:K)(v:Value):List (K×Value)->List (K×Value)
 |[]=>[(B,v)]|kv::l=>if kv.1=B then(kv.1,v)::l else kv::putL B v l
theorem fA(B:K)(v:Value):∀kvs:List<|K×Value,(kvs.map (·.1)).Nodup->stored kvs B v=putL B v kvs
 |[],_=>rfl|kv::l,J=>by
  rw[List.map_cons,List.nodup_cons]at J;have ih:=fA B v l J.2;unfold stored at ih⊢;unfold putL;by_cases h:kv.1=B
  .rw[if_pos h,List.any_cons,decide_eq_true h,Bool.true_or,if_pos rfl,List.map_cons,if_pos h,map_store_of_not_mem l B v<|h▸J.1]
  .rw[if_neg h,List.any_cons,decide_eq_false h,Bool.false_or];by_cases q:(l.any λ kv=>decide<|kv.1=B)=true
   .rw[if_pos q]at ih⊢;rw[List.map_cons,if_neg h,ih]
   .rw[if_neg q]at ih⊢;rw[List.cons_append,ih]
theorem zP{R:AV->K->Prop}(C:J5 X R){es}{kvs}(F:mh R Z G n h es kvs){k}{B}(J:R k B){r:Option AV}(e:TP X k es=some r):jv Z G n h r (valueAt kvs B):=by
 induction F with|nil=>exact gH (M:=λ r=>jv Z G n h r none) e trivial|@cons p q l k' a f ih=>
  refine aX (x:=jT X 8 p.1 k) e λ b c e=>?_;have c:=C _ _ _ _ _ a.1 J c;refine cR q.1 B q.2 k'▸ ?_;cases b with|true=>rw[if_pos<|of_decide_eq_true c.symm];exact gH e a.2|false=>rw[if_neg<|of_decide_eq_false c.symm];exact ih e
theorem wH{R:AV->K->Prop}(C:J5 X R){es f8}{kvs}(F:mh R Z G n h es kvs){k}{J}{v}(B:R k J)(hv:VR Z G n h y v)(e:PP X k y es=some f8):
  mh R Z G n h f8 (putL J v kvs):=by
 induction F generalizing f8 with|nil=>exact gH (M:=λ r=>mh R Z G n h r _) e (.cons ⟨B,hv⟩ .nil)|@cons p q l k' a f ih=>
  refine aX (x:=jT X 8 p.1 k) e λ b c e=>?_;have c:=C _ _ _ _ _ a.1 B c;unfold putL;cases b with|true=>rw[if_pos<|of_decide_eq_true c.symm];exact gH e (.cons ⟨a.1,hv⟩ f)|false=>rw[if_neg<|of_decide_eq_false c.symm];exact aX e λ l' O e=>gH e<|.cons a<|ih O
theorem lh(J B:K)(v:Value):∀kvs:List<|K×Value,valueAt (putL J v kvs) B=if J=B then some v else valueAt kvs B
 |[]=>by unfold putL;rw[cR]|kv::l=>by
  obtain⟨O,v0⟩:=kv;unfold putL;by_cases h:O=J
  .subst h;rw[if_pos rfl,cR,cR];split<;>rfl
  .rw[if_neg h,cR,cR,lh J B v l];by_cases q:O=B
   .rw[if_pos q,if_pos q,if_neg<|λ z=>h<|q.trans z.symm]
   .rw[if_neg q,if_neg q]
theorem ow{R:AV->K->Prop}(C:J5 X R){es}{kvs}(F:BX R Z G n h es kvs){k}{B}(O:R k B){r:Option AV}(e:Q6 X k es=some r):jv Z G n h r (valueAt kvs B):=by
 induction es with|nil=>exact nn e|cons p l ih=>
  refine a8 (F p<|.head _) λ B1 J h1=>aX (x:=jT X 8 p.1 k) e λ b c e=>?_;have c:=C _ _ _ _ _ J O c;cases b with|true=>exact ft c.symm▸gH e h1|false=>exact ih (λ q hq=>F q<|.tail _ hq) e
theorem vJ{R:AV->K->Prop}(C:J5 X R){k}{J}{v}(hk:R k J)(hv:VR Z G n h y v){kvs}{es}:∀{f8:List<|AV×Option AV},BX R Z G n h es kvs->Dl X k y es=some f8->BX R Z G n h f8 (putL J v kvs):=by
 induction es with|nil=>exactλ _ e=>gH e λ _ hp=>nomatch hp|cons p l ih=>
  intro f8 F e;refine a8 (F p<|.head _) λ O B h1=>aX (x:=jT X 8 p.1 k) e λ b c e=>aX e λ l' e' e=>gH e ?_;have c:=C _ _ _ _ _ B hk c;refine List.forall_mem_cons.mpr ⟨⟨O,B,?_⟩,ih (λ q hq=>F q<|.tail _ hq) e'⟩;rw[lh];cases b with|true=>rw[if_pos (of_decide_eq_true c.symm).symm];exact hv|false=>rw[if_neg<|Ne.symm<|of_decide_eq_false c.symm];exact h1
theorem vp(B:K)(v:Value):∀kvs:List<|K×Value,(putL B v kvs).length=kvs.length+v4 (valueAt kvs B)
 |[]=>rfl|kv::l=>by
  obtain⟨J,v0⟩:=kv;unfold putL;rw[cR];by_cases h:J=B
  .rw[if_pos h,if_pos h];rfl
  .rw[if_neg h,if_neg h,List.length_cons,vp B v l,List.length_cons];lia
theorem Dj{k}{l}:∀{l'},Dl X k y l=some l'->bY l'<=bY l:=by
 induction l with|nil=>exactλ e=>gH e (a9 0)|cons p l ih=>exactλ e=>aX (x:=jT X 8 p.1 k) e λ b c e=>aX e λ l' B e=>gH e<|dK (by cases b;exact a9 _;exact dp _)<|ih B
theorem sZ{k}{es}{r:Option AV}:∀{f8},Q6 X k es=some r->Dl X k y es=some f8->bY f8+v4 r<=bY es:=by
 induction es with|nil=>exactλ e=>nn e|cons p l ih=>
  refineλ e B=>aX (x:=jT X 8 p.1 k) e λ b c e=>aX (x:=jT X 8 p.1 k) B λ b' c' B=>aX B λ l' q B=>?_;obtain rfl:=sI<|c.symm.trans c';cases b with|true=>exact gH (M:=λ r=>bY _+v4 r<=v4 p.2+bY l) e (gH B (by have:=Dj q;show 0+bY l'+v4 p.2<=v4 p.2+bY l;lia))|false=>exact gH B (by have:=ih e q;show v4 p.2+bY l'+_<=v4 p.2+bY l;lia)
end
section
variable{Z:Sy}{X:Env}{w:World}{G:Nat->Addr}{s:Shared}{n:Nat}{h:Heap}
theorem uh(H:fi Z X):J5 X (IK Z):=λ a b κ B8 x ha hb e=>b8 ha λ v o B J=>b8 hb λ w p O z4=>by
 rw[B,O]at e;rw[J,z4];exact jc e (rF H) λ e=>nn e
theorem NP(α:bB Z):J5 X (SK Z):=λ a b κ B8 x ha hb e=>a8 ha λ j B J=>a8 hb λ k O z4=>by
 rw[B,O]at e;rw[J,z4];exact(sI e).symm.trans<|(TR.i8 j k).trans<|i7 ⟨λ z=>congrArg _ z,α _ _⟩
theorem wy(α:bB Z)(m:Nat):∀(B ks:List Nat)(x:Bool),OO (jT X<|m+1) (B.map .s) (ks.map .s)=some x->x=decide (B.map Z.nm=ks.map Z.nm)
 |[],[],x,e=>Zb e rfl|[],k::ks,x,e=>Jr e λ z=>nomatch z|j::B,[],x,e=>Jr e λ z=>nomatch z|j::B,k::ks,x,e=>by
  have e:(match Nat.beq j k with|true=>OO (jT X<|m+1) (B.map .s) (ks.map .s)|false=>some false)=some x:=e;cases q:Nat.beq j k with
  |true=>
   rw[q]at e;rw[wy α m B ks x e,Nat.eq_of_beq_eq_true q];exact i7 ⟨λ z=>congrArg (Z.nm k:: ·) z,λ z=>(List.cons.inj z).2⟩
  |false=>rw[q]at e;exact Jr e λ z=>Nat.ne_of_beq_eq_false q<|α _ _ (List.cons.inj z).1
theorem qz(α:bB Z):J5 X (MK Z):=λ a b κ B8 x ha hb e=>b8 ha λ j B O z2=>b8 hb λ k ks z3 z4=>by
 rw[O,z3]at e;rw[z2,z4];have e:(match Nat.beq j k with|true=>bd (OO (jT X 6) (B.map .s)<|ks.map .s) λ b=>(match b with|true=>some true|false=>some false)|false=>some false)=some x:=e;cases q:Nat.beq j k with
 |true=>
  rw[q]at e;refine aX e λ b J e=>?_;have:b=x:=by cases b<;>exact sI e
  rw[<-this,wy α 5 B ks b J,Nat.eq_of_beq_eq_true q];exact i7 ⟨λ z=>congrArg (Prod.mk<|Z.nm k) z,λ z=>(bx z).2⟩
 |false=>rw[q]at e;exact Jr e λ z=>Nat.ne_of_beq_eq_false q<|α _ _ (bx z).1
theorem rM:∀{ys:List AV}{B:List Nat},NO ys=some B->ys=B.map .s
 |[],_,e=>gH e rfl|a::l,B,e=>Ld (M:=λ a=>a::l=B.map .s) e λ k e=>aX e λ ks J e=>gH e<|congrArg _<|rM J
theorem RD{k}{P:Prop}(h:wS k=some ())(hi:∀i,IK Z k i->P)(hs:∀i,SK Z k i->P)(hm:∀i,MK Z k i->P):P:=
 jc h (λ h=>Ow (M:=λ k=>(∀i,IK Z k i->P)->P) h (λ v o _ hi=>hi _ ⟨v,o,rfl,rfl⟩) hi) λ h=>jc h (λ h=>Ld (M:=λ k=>(∀i,SK Z k i->P)->P) h (λ j _ hs=>hs _ ⟨j,rfl,rfl⟩) hs) λ h=>
  Ot (M:=λ k=>(∀i,MK Z k i->P)->P) h (λ xs h=>Of (M:=λ xs=>(∀i,MK Z (.t xs) i->P)->P) h λ a c h=>Ld (M:=λ a=>(∀i,MK Z (.t [a,c]) i->P)->P) h λ j h=>Ot (M:=λ c=>(∀i,MK Z (.t [.s j,c]) i->P)->P) h λ ys h hm=>aX h λ B e _=>hm _ ⟨j,B,rM e▸rfl,rfl⟩) hm
theorem tF{k}{i:Int}(R:IK Z k i)(V:VR Z G n h k u):(intKind pw w).is i u=true:=b8 R λ v o B J=>by
 rw[B]at V;rw[J];exact V.RS λ t=>if_pos rfl
theorem oz{k}{x}(R:SK Z k x)(V:VR Z G n h k u):(strKind pw w).is x u=true:=a8 R λ j B J=>xE (VR.un (B▸V:VR Z G n h (.s j) u)) λ t e=>e▸J▸if_pos rfl
theorem oO:∀{B:List Nat}{ws:List Value},br Z G n h (B.map AV.s) ws->ItemsAre (strKind pw w) (B.map Z.nm) ws
 |[],_,V=>V.vH .nil|j::B,_,V=>V.Ah λ u us r t=>.cons (oz ⟨j,rfl,rfl⟩ r)<|oO t
theorem oA{k}{y}(R:MK Z k y)(V:VR Z G n h k u):∃a,u=.ref a/\(dT pw w).is h y a:=
 b8 R λ j B z2 z3=>by
 rw[z2]at V;subst z3;exact V.qT λ ws a o m ho hc hd W=>W.Cc (M:=λ ws=>o.data=.seq ws.toArray m->∃a',Value.ref a=.ref a'/\fk pw w h (Z.nm j,B.map Z.nm) a')
  (λ J O v1 v2=>v2.qT (M:=λ O=>o.data=.seq [J,O].toArray m->∃a',Value.ref a=.ref a'/\fk pw w h (Z.nm j,B.map Z.nm) a') λ xi a' o' m' oF Wt uF W' hd=>⟨a,rfl,J,a',o,m,ho,hc,hd,oz ⟨j,rfl,rfl⟩ v1,o',xi.toArray,m',oF,Wt,uF,oO W'⟩) hd
theorem nq{K:Type}[DecidableEq K]{knd:KeyKind pw w K}{d:Addr}(H:h.DictOf knd d []):∃o ep,h.get? d=some o/\o.ExactDict/\o.data=.dict #[] ep:=by
 refine fZ H λ o es ep ho hc hd B hp J=>?_;have:es= #[]:=by
  have:=hp.length;apply Array.toList_inj.mp;simpa using this
 refine this▸ ?_;exact(fc o ep ho hc hd)
theorem sV{d:Addr}(H:h.DictOfH (dT pw w) d []):∃o ep,h.get? d=some o/\o.ExactDict/\o.data=.dict #[] ep:=by
 refine bA H λ o es ep ho hc hd B _=>?_;have:es= #[]:=Array.toList_inj.mp (by assumption);refine this▸ ?_;exact(fc o ep ho hc hd)
theorem px{K:Type}[DecidableEq K](knd:KeyKind pw w K){d:Addr}(H:∃o ep,h.get? d=some o/\o.ExactDict/\o.data=.dict #[] ep):h.DictOf knd d []:=by
 refine a5 H λ o ep ho hc hd=>?_;exact⟨o, #[],ep,ho,hc,hd,(λ e B=>by simp at B),.nil,.nil⟩
theorem GV{d:Addr}(H:∃o ep,h.get? d=some o/\o.ExactDict/\o.data=.dict #[] ep):h.DictOfH (dT pw w) d []:=by
 refine a5 H λ o ep ho hc hd=>?_;exact⟨o, #[],ep,ho,hc,hd,rfl,(λ e B=>by simp at B),.nil⟩
theorem DR.empty{d:Addr}(H:DR Z w G n h [] d):∃o ep,h.get? d=some o/\o.ExactDict/\o.data=.dict #[] ep:=by
 cases H with
 |int kvs D F=>cases kvs with|nil=>exact nq D|cons _ _=>exact nomatch F.length
 |str kvs D F=>cases kvs with|nil=>exact nq D|cons _ _=>exact nomatch F.length
 |mix xs D F=>cases xs with|nil=>exact sV D|cons _ _=>exact nomatch F.length
theorem DG{a b}{x:Bool}{i:Int}(r:IK Z a i)(e:jT X 8 a b=some x):∃j,IK Z b j:=b8 r λ v o z _=>jc (z▸e:pt (ky b λ w p=>WD X v o w p) _=_) (λ e=>Ow e λ w p _=>⟨_,w,p,rfl,rfl⟩) λ e=>nn e
theorem XV{a b}{x:Bool}{i}(r:SK Z a i)(e:jT X 8 a b=some x):∃j,SK Z b j:=a8 r λ j z _=>jc (z▸e:pt (w_ b λ k=>some<|Nat.beq j k) _=_) (λ e=>Ld e λ k _=>⟨_,k,rfl,rfl⟩) λ e=>nn e
theorem RC{a b}{x:Bool}{i}(r:MK Z a i)(e:jT X 8 a b=some x):∃ys,b=.t ys:=b8 r λ j B z _=>Ot (z▸e:C4 b (λ ys=>OO (jT X 7) [.s j,.t<|B.map .s] ys)=_) λ ys _=>⟨ys,rfl⟩
theorem DF{a b}{x:Bool}{i}(B:wS b=some ())(r:MK Z a i)(e:jT X 8 a b=some x):∃j,MK Z b j:=
 xE (RC r e) λ ys q=>RD (Z:=Z) B (λ i r=>b8 r λ _ _ e _=>nomatch q.symm.trans e) (λ i r=>a8 r λ _ e _=>nomatch q.symm.trans e) λ i r=>⟨i,r⟩
structure nI{K:Type} [DecidableEq K](Z:Sy)(X:Env)(w:World)(knd:KeyKind pw w K)(R:AV->K->Prop):Prop where
 ag:J5 X R
 is:∀{k i u G n h},R k i->VR Z G n h k u->knd.is i u=true
theorem Y9(H:fi Z X):nI Z X w (intKind pw w) (IK Z):=⟨uh H,tF⟩
theorem Y8(α:bB Z):nI Z X w (strKind pw w) (SK Z):=⟨NP α,oz⟩
inductive wW(Z:Sy)(X:Env)(w:World)(G:Nat->Addr)(n:Nat)(h:Heap)(es:List<|AV×AV)(d:Addr)(k:AV):Prop
 |gen (K:Type) (D:DecidableEq K) (knd:KeyKind pw w K) (R:AV->K->Prop) (ok:nI Z X w knd R) (kvs:List<|K×Value) (i:K):h.DictOf knd d kvs->mh R Z G n h es kvs->R k i->(∀{h' f8 RB},h'.DictOf knd d RB->mh R Z G n h' f8 RB->DR Z w G n h' f8 d)->wW Z X w G n h es d k
 |mix (xs:List<|(Str×List Str)×Addr×Value) (i:Str×List Str):h.DictOfH (dT pw w) d xs->mh (MK Z) Z G n h es (iE xs)->MK Z k i->wW Z X w G n h es d k
theorem wW.of(H:fi Z X)(α:bB Z){es:List<|AV×AV}{d:Addr}{k}(D:DR Z w G n h es d)(B:wS k=some ())(he:∀p,p∈es.head?→∃x,jT X 8 p.1 k=some x):wW Z X w G n h es d k:=by
 have J:∀{kvs i},h.DictOf (intKind pw w) d kvs->mh (IK Z) Z G n h es kvs->IK Z k i->wW Z X w G n h es d k:=λ D F r=>.gen _ _ _ _ (Y9 H) _ _ D F r λ D F=>.int _ D F;have O:∀{kvs i},h.DictOf (strKind pw w) d kvs->mh (SK Z) Z G n h es kvs->SK Z k i->wW Z X w G n h es d k:=λ D F r=>.gen _ _ _ _ (Y8 α) _ _ D F r λ D F=>.str _ D F;cases es with|nil=>exact RD B (λ i r=>J (px _<|DR.empty D) .nil r) (λ i r=>O (px _<|DR.empty D) .nil r) λ i r=>.mix [] i (GV<|DR.empty D) .nil r|cons p l=>
  refine xE (he p rfl) λ x e=>?_;cases D with
  |int kvs D F=>cases kvs with|nil=>exact nomatch F.length|cons q kvs=>cases F with|cons a f=>exact xE (DG a.1 e) λ j r=>J D (.cons a f) r
  |str kvs D F=>cases kvs with|nil=>exact nomatch F.length|cons q kvs=>cases F with|cons a f=>exact xE (XV a.1 e) λ j r=>O D (.cons a f) r
  |mix xs D F=>cases xs with|nil=>exact nomatch F.length|cons q xs=>cases F with|cons a f=>exact xE (DF B a.1 e) λ j r=>.mix (q::xs) j D (.cons a f) r
theorem EP{k}{es:List<|AV×AV}{r:Option AV}(e:TP X k es=some r):∀p,p∈es.head?→∃x,jT X 8 p.1 k=some x:=λ p hp=>by
 cases es with|nil=>exact nomatch hp|cons q l=>exact aX (x:=jT X 8 q.1 k) e λ b c _=>sI hp▸⟨b,c⟩
theorem Bp{k}{es f8:List<|AV×AV}(e:PP X k v es=some f8):∀p,p∈es.head?→∃x,jT X 8 p.1 k=some x:=λ p hp=>by
 cases es with|nil=>exact nomatch hp|cons q l=>exact aX (x:=jT X 8 q.1 k) e λ b c _=>sI hp▸⟨b,c⟩
theorem vL{k}{es}{r:Option AV}(e:Q6 X k es=some r):∃p∈es,∃x,jT X 8 p.1 k=some x:=by
 cases es with|nil=>exact nn e|cons q l=>exact aX (x:=jT X 8 q.1 k) e λ b c _=>⟨q,.head _,b,c⟩
theorem zB{K:Type}[DecidableEq K](xs:List<|K×Addr×Value)(y:K):valueAt (iE xs) y=(atKey xs y).map (·.2):=by
 induction xs with|nil=>rfl|cons x l ih=>
  obtain⟨k,a,v⟩:=x;show valueAt ((k,v)::iE l) y=_;rw[cR,ih];unfold atKey;rw[List.find?_cons];by_cases h:k=y
  .simp[h]
  .simp[h]
theorem wk{K:Type}[DecidableEq K](B:K)(a:Addr)(v:Value)(xs:List<|K×Addr×Value)(J:(xs.map (·.1)).Nodup):iE (storedH xs B a v)=putL B v (iE xs):=by
 have hm:(iE xs).map (·.1)=xs.map (·.1):=by exact List.map_map
 rw[<-fA B v _ (by rw[hm];exact J)];unfold storedH stored;have O:(atKey xs B).isSome=(iE xs).any λ kv=>decide (kv.1=B):=by
  induction xs with|nil=>rfl|cons x l ih=>
   obtain⟨k,b,u⟩:=x;have ih:=ih (by rw[List.map_cons,List.nodup_cons]at J;exact J.2) (by exact List.map_map);show(atKey ((k,b,u)::l) B).isSome=(decide (k=B)||(iE l).any _);rw[<-ih];unfold atKey;rw[List.find?_cons];by_cases h:k=B<;>simp[h]
 rw[O];split
 .simp only[iE,List.map_map];apply List.map_congr_left;intro x _;simp only[Function.comp_apply,putAt];split<;>simp_all
 .exact List.map_append
inductive fI(Z:Sy)(w:World)(G:Nat->Addr)(n:Nat)(h:Heap)(d:Addr)(u:Value)(r:Option AV):Prop
 |gen (K:Type) (D:DecidableEq K) (knd:KeyKind pw w K) (kvs:List<|K×Value) (i:K):h.DictOf knd d kvs->knd.is i u=true->jv Z G n h r (valueAt kvs i)->fI Z w G n h d u r
 |mix (xs:List<|(Str×List Str)×Addr×Value) (i:Str×List Str) (a:Addr):h.DictOfH (dT pw w) d xs->u=.ref a->(dT pw w).is h i a->jv Z G n h r ((atKey xs i).map (·.2))->fI Z w G n h d u r
theorem ti(H:fi Z X)(α:bB Z){es}{d:Addr}{k}{r:Option AV}(D:DR Z w G n h es d)(V:VR Z G n h k u)(e:AT X k es=some r):fI Z w G n h d u r:=aX e λ _ B e=>by
 cases wW.of H α D B (EP e)with
 |gen K _ knd R ok kvs i D F r=>exact .gen K _ knd kvs i D (ok.is r V) (zP ok.ag F r e)|mix xs i D F r=>exact a8 (oA (w:=w) r V) λ a J ha=>.mix xs i a D J ha<|zB xs i▸zP (qz α) F r e
theorem G9(H:fi Z X)(α:bB Z){es}{d:Addr}{k}{r:Option AV}(D:MR Z w G n h es d)(V:VR Z G n h k u)(e:Dm X k es=some r):fI Z w G n h d u r:=aX e λ _ B e=>a8 (vL e) λ p hp hx=>xE hx λ x hx=>by
 cases D with|int kvs D F l=>exact a8 (F p hp) λ i a _=>xE (DG a hx) λ j r=>.gen _ _ _ kvs j D (tF r V) (ow (uh H) F r e)|mix xs D F l=>exact a8 (F p hp) λ i a _=>xE (DF B a hx) λ j r=>a8 (oA (w:=w) r V) λ a J ha=>.mix xs j a D J ha<|zB xs j▸ow (qz α) F r e
theorem jM{r:Option AV}{v:Option Value}(x:jv Z G n h r v):v.isSome=r.isSome:=by
 cases r<;>cases v<;>first|rfl|exact x.elim
theorem room_in(B:A.units+10<cLine):(dT pw w).room A.in1:=by show A.units+1+1<cLine;lia
theorem sU{d:Addr}(hd:1<d):(d==sysModules)=false:=beq_eq_false_iff_ne.mpr λ z=>absurd (z▸hd) (by decide)
theorem fI.isIn{d:Addr}{r:Option AV}{E:Value->Shared->Prop}(L:fI Z w G n s.heap d u r)(O:A.units+10<cLine)(hd:1<d)(q:∀t,Q (.bool r.isSome) {s with toks:=t}):
  aD w A (compareOp .In u<|.ref d) Q E s:=by
 cases L with|gen K _ knd kvs i D B o=>exact wpAny_in_of B (sU hd) D.mapOf ((jM o).symm▸q _)|mix xs i a D J B o=>exact J.symm▸wpAny_in_heap (room_in O) B (sU hd) D ((Option.isSome_map.symm.trans<|jM o).symm▸q _)
theorem fI.QN{d:Addr}{r:Option AV}{E:Value->Shared->Prop}(L:fI Z w G n s.heap d u r)(O:A.units+10<cLine)(hd:1<d)(q:∀t,Q (.bool<|!r.isSome) {s with toks:=t}):
  aD w A (compareOp .NotIn u<|.ref d) Q E s:=by
 cases L with|gen K _ knd kvs i D B o=>exact wpAny_notIn_of B (sU hd) D.mapOf ((jM o).symm▸q _)|mix xs i a D J B o=>exact J.symm▸wpAny_notIn_heap (room_in O) B (sU hd) D ((Option.isSome_map.symm.trans<|jM o).symm▸q _)
theorem fI.get{d:Addr}{E:Value->Shared->Prop}(L:fI Z w G n s.heap d u<|some y)(O:A.units+10<cLine)(q:∀t v,VR Z G n s.heap y v->Q v {s with toks:=t}):
  aD w A (getItem (.ref d) u) Q E s:=by
 cases L with
 |gen K _ knd kvs i D B o=>
  cases e:valueAt kvs i with|none=>rw[e]at o;exact o.elim|some v=>rw[e]at o;exact wpAny_getItem_of B D.mapOf e (q _ _ o)
 |mix xs i a D J B o=>
  cases e:atKey xs i with|none=>rw[e]at o;exact o.elim|some v=>rw[e]at o;exact J.symm▸wpAny_getItem_heap (room_in O) B D e (q _ _ o)
end
section
variable{Z:Sy}{X:Env}{w:World}{G:Nat->Addr}{s:Shared}{n:Nat}{h:Heap}
theorem mh.keeps{K:Type}{R:AV->K->Prop}{h}{es}{kvs}(F:mh R Z G n h es kvs)(B:bh h h'):mh R Z G n h' es kvs:=
 F2.mono (λ _ _ z=>⟨z.1,z.2.keeps (a9 _) (λ _ _=>rfl) B⟩) F
theorem BX.keeps{K:Type}[DecidableEq K]{R:AV->K->Prop}{h}{es}{kvs}(F:BX R Z G n h es kvs)(B:bh h h'):BX R Z G n h' es kvs:=
 λ p hp=>let⟨i,a,b⟩:=F p hp;⟨i,a,b.keeps (a9 _) (λ _ _=>rfl) B⟩
theorem qn{K:Type}[DecidableEq K]{knd:KeyKind pw w K}{h:Heap}{d:Addr}{kvs:List<|K×Value}(D:h.DictOf knd d kvs)(hs:Heap.SameBut d h h'):bh h h':=by
 refine cQ D λ o es ep ho _ hd _=>?_;exact iK ho hd hs
theorem nG{h:Heap}{d:Addr}{xs}(D:h.DictOfH (dT pw w) d xs)(hs:Heap.SameBut d h h'):bh h h':=by
 refine cQ D λ o es ep ho _ hd _=>?_;exact iK ho hd hs
theorem i6{K:Type}[DecidableEq K]{knd:KeyKind pw w K}{h:Heap}{d:Addr}{kvs:List<|K×Value}(D:h.DictOf knd d kvs):(kvs.map (·.1)).Nodup:=by
 refine fZ D λ o es ep ho _ hd _ _ z=>?_;exact z
theorem kh{h:Heap}{d:Addr}{xs:List<|(Str×List Str)×Addr×Value}(D:h.DictOfH (dT pw w) d xs):(xs.map (·.1)).Nodup:=by
 refine fZ D λ o es ep ho _ hd _ _ z=>?_;exact z
theorem mM{K:Type}(xs:List<|K×Addr×Value):(iE xs).length=xs.length:=by exact List.length_map _
theorem DR.set(H:fi Z X)(α:bB Z){es f8:List<|AV×AV}{d:Addr}{k}{v}{Q:Unit->Shared->Prop}{E:Value->Shared->Prop}(hu:A.units+10<cLine)(D:DR Z w G n s.heap es d)(V:VR Z G n s.heap k u)(Y:VR Z G n s.heap y v)(e:NE X k y es=some f8)(hl:es.length<=500)(q:∀h' t,DR Z w G n h' f8 d->Heap.SameBut d s.heap h'->Q () {s with heap:=h',toks:=t}):aD w A (setItem (.ref d) u v) Q E s:=aX e λ _ O e=>by
 cases wW.of H α D O (Bp e)with
 |gen K _ knd R ok kvs i D F r mk=>exact wpAny_setItem_pairs (ok.is r V) D (λ h' J B=>q _ _ (mk (by rwa [fA _ _ _<|i6 D]at J)<|mh.keeps (wH ok.ag F r Y e)<|qn D B) B) (by rw[sizeLine_eq];have:=F.length;lia)|mix xs i D F r=>exact a8 (oA (w:=w) r V) λ a z1 ha=>z1.symm▸wpAny_setItem_heap (room_in hu) ha D (λ h' J B=>q _ _ (.mix _ J<|wk _ _ _ _ (kh D)▸mh.keeps (wH (qz α) F r Y e) (nG D B)) B) (by rw[sizeLine_eq,<-mM];have:=F.length;lia)
theorem Ax{r:Option AV}{v:Option Value}(x:jv Z G n h r v):v4 v=v4 r:=by
 cases r<;>cases v<;>first|rfl|exact x.elim
theorem MR.set(H:fi Z X)(α:bB Z){es f8}{d:Addr}{k}{v}{Q:Unit->Shared->Prop}{E:Value->Shared->Prop}(hu:A.units+10<cLine)(D:MR Z w G n s.heap es d)(V:VR Z G n s.heap k u)(Y:VR Z G n s.heap y v)(e:Di X k y es=some f8)(q:∀h' t,MR Z w G n h' f8 d->Heap.SameBut d s.heap h'->Q () {s with heap:=h',toks:=t}):aD w A (setItem (.ref d) u v) Q E s:=aX e λ r J e=>aX J λ _ hk J=>a8 (vL J) λ p hp hx=>xE hx λ x hx=>by
 have Wv:=sZ J e;have len:∀{K:Type} [DecidableEq K]{l l':List<|K×Value}{i:K}{R:AV->K->Prop},l'=putL i v l->jv Z G n s.heap r (valueAt l i)->l.length+bY es<=1000->l'.length+bY f8<=1000:=λ e o l=>by
  rw[e,vp,Ax o];lia
 cases D with
 |int kvs D F l=>
  refine a8 (F p hp) λ i a _=>xE (DG a hx) λ j r=>?_;exact wpAny_setItem_pairs (tF r V) D (λ h' O B=>q _ _ (.int _ O (fA _ _ _ (i6 D)▸BX.keeps (vJ (uh H) r Y F e) (qn D B))<|len (R:=IK Z) (fA _ _ _<|i6 D) (ow (uh H) F r J) l) B) (by rw[sizeLine_eq];lia)
 |mix xs D F l=>
  refine a8 (F p hp) λ i a _=>xE (DF hk a hx) λ j r=>a8 (oA (w:=w) r V) λ a z1 ha=>z1.symm▸ ?_;have fp:=wk j a v xs<|kh D;exact wpAny_setItem_heap (room_in hu) ha D (λ h' O B=>q _ _ (.mix _ O (fp▸BX.keeps (vJ (qz α) r Y F e) (nG D B))<|mM _▸len (R:=MK Z) fp (ow (qz α) F r J) ((mM xs).symm▸l)) B) (by rw[sizeLine_eq];lia)
end
def yI(Z:Sy)(X:Env):Prop:=∀j es,lk j X.sd=some es->1<j/\∀(w:World)(h:Heap),Ready w h->∀G n,DR Z w G n h es j
variable{ws:List Value}
section
variable{Z:Sy}{X:Env}{w:World}{G:Nat->Addr}{s:Shared}{n:Nat}{h:Heap}{E:Value->Shared->Prop}
theorem pX(H:fi Z X)(α:bB Z){c}(V:VR Z G n h c u):∀{xs:List AV}{ws:List Value}{b:Bool},br Z G n h xs ws->isIn X c xs=some b->ws.any (λ y=>Gi y u)=b/\∀y∈ws,EqAt A s y u (Gi y u)
 |[],ws,b,R,e=>R.vH (gH e ⟨rfl,λ y hy=>nomatch hy⟩)|x::xs,ws,b,R,e=>by
  refine R.Ah λ y ws r1 r2=>aX (x:=H2 X x c) e λ p hp e=>aX e λ p' J e=>xA (pX H α V r2 J) λ a1 O=>?_;have B:=mN (A:=A) (s:=s) H α hp r1 V;exact⟨by rw[List.any_cons,a1,B.q];exact sI e,List.forall_mem_cons.mpr ⟨B.q.symm▸B.a,O⟩⟩
theorem rm(H:fi Z X){a c}{v}{b:Bool}(e:hV X a c=some b)(U:VR Z G n h a u)(V:VR Z G n h c v):∃i t j B,u=.int i t/\v=.int j B/\b=decide (i<j):=
 gY e U λ _ _ _ e=>gY e V λ _ _ _ e=>(⟨_,_,_,_,rfl,rfl,iw H e⟩)
theorem Lv{x:Option Bool}{b:Bool}{P:Prop}(e:neg x=some b)(k:∀y,x=some y->b= !y->P):P:=aX e λ y B e=>k y B (sI e).symm
theorem rq{a c}{v}{b:Bool}(e:Za a c=some b)(U:VR Z G n h a u)(V:VR Z G n h c v):v=.none/\plainIs u .none=true/\(u==Value.none)=b:=GS e V λ e=>⟨rfl,by
 cases U<;>first|exact gH e ⟨rfl,rfl⟩|exact nn e⟩
theorem fI.sys{d:Addr}{r:Option AV}(L:fI Z w G n s.heap d u r)(B:A.units+10<cLine)(hd:1<d){b:Bool}(e:some r.isSome=some b):((∀t,Q (.bool b) {s with toks:=t})->aD w A (compareOp .In u<|.ref d) Q E s)/\((∀t,Q (.bool<|!b) {s with toks:=t})->aD w A (compareOp .NotIn u<|.ref d) Q E s):=
 gH e ⟨L.isIn B hd,L.QN B hd⟩
theorem pJ(H:fi Z X)(α:bB Z){l:Addr}{a}{v}{b:Bool}(e:isIn X a xs=some b)(U:VR Z G n s.heap a u)(W:br Z G n s.heap xs ws)(L:s.heap.IsList l ws.toArray/\v=.ref l\/s.heap.IsTuple l ws.toArray/\v=.ref l):
  ((∀t,Q (.bool b) {s with toks:=t})->aD w A (compareOp .In u v) Q E s)/\((∀t,Q (.bool<|!b) {s with toks:=t})->aD w A (compareOp .NotIn u v) Q E s):=by
 refine xA (pX (A:=A.in1) (s:=s) H α U W e) λ a1 B=>?_;have ha:ws.toArray.any (λ y=>Gi y u)=b:=(List.any_toArray.trans a1);have hm:∀y∈ws.toArray,EqAt A.in1 s y u (Gi y u):=λ y J=>B y<|List.mem_toArray.mp J;rcases L with⟨L,z⟩|⟨L,z⟩<;>rw[z]
 .exact⟨λ q=>in_listAt _ L hm<|ha▸q s.toks,λ q=>notIn_listAt _ L hm<|ha▸q s.toks⟩
 .exact⟨λ q=>in_tupleAt _ L hm<|ha▸q s.toks,λ q=>notIn_tupleAt _ L hm<|ha▸q s.toks⟩
theorem pM{o}(e:zj o=some xs):o=.list xs:=by
 cases o with|list ys=>exact congrArg _ (sI e)|_=>exact nn e
theorem tj(H:fi Z X)(α:bB Z){o}{d:Addr}{k}{r:Option AV}(R:OR Z w G n h d o)(V:VR Z G n h k u)(e:vX X o k=some r):fI Z w G n h d u r:=by
 cases o with|dict es=>exact ti H α R V e|map es=>exact G9 H α R V e|_=>exact nn e
theorem SR.lo1(S:SR Z w G st h){o}(e:st.T.get j=some o):1<G j:=ba (by simp)<|S.lo j o e
theorem pH(H:fi Z X)(α:bB Z)(D:yI Z X){a c}{v}{b:Bool}(e:G_ X a c st=some b)(S:SR Z w G st s.heap)(U:VR Z G st.nx s.heap a u)(V:VR Z G st.nx s.heap c v)(J:A.units+10<cLine):
  ((∀t,Q (.bool b) {s with toks:=t})->aD w A (compareOp .In u v) Q E s)/\((∀t,Q (.bool<|!b) {s with toks:=t})->aD w A (compareOp .NotIn u v) Q E s):=by
 cases c with|r j=>exact V.inR λ hj=>aX e λ o ho e=>jc e (λ e=>aX e λ xs hx e=>a5 (pM hx▸S.ob j o ho:OR Z w G st.nx s.heap (G j)<|.list xs) λ ws m g W l=>pJ H α e U W<|.inl ⟨⟨_,g,rfl,m,rfl⟩,rfl⟩) λ e=>aX e λ r B e=>(tj H α (S.ob j o ho) U B).sys J (S.lo1 ho) e|g j=>exact(VR.un V:v=_)▸aX e λ es O e=>aX e λ r B e=>xA (D j es O) λ lo hd=>(ti H α (w:=w) (hd w s.heap S.ready G st.nx) U B).sys J lo e|t xs=>exact V.qT λ ws a o m ho hc hd W=>pJ H α e U W (.inr ⟨⟨_,ho,hc,m,hd⟩,rfl⟩)|_=>exact nn e
theorem qt(H:fi Z X)(α:bB Z)(D:yI Z X){op}{kY}{a c}{v}{b:Bool}(ho:Nt op kY=true)(e:Im X op a c st=some b)(S:SR Z w G st s.heap)(U:VR Z G st.nx s.heap a u)(V:VR Z G st.nx s.heap c v)(J:A.units+10<cLine)(q:∀t,Q (.bool b) {s with toks:=t}):aD w A (compareOp kY u v) Q E s:=by
 have We:A.units<cLine:=eh (bL _ _) J;cases op<;>refine bq ho▸ ?_
 .exact(rD H α S We e U V).1 _ _ _ _ (q s.toks)
 .exact Lv e λ y B z=>(rD H α S We B U V).2 _ _ _ _ (z▸q s.toks)
 .exact fU (rm H e U V) λ i t j t' O z5 z6=>O▸z5▸P.lt_int (z6▸q s.toks)
 .exact fU (rm H e V U) λ i t j t' O z5 z6=>O▸z5▸P.gt_int (z6▸q s.toks)
 .exact ib (rq e U V) λ z0 hp hb=>z0▸wpAny_is_plain hp (hb▸q s.toks)
 .exact Lv e λ y B z=>ib (rq B U V) λ z0 hp hb=>z0▸wpAny_isNot_plain hp (hb▸z▸q s.toks)
 .exact(pH H α D e S U V J).1 q
 .exact Lv e λ y B z=>(pH H α D B S U V J).2<|z▸q
end
variable{w':Nat}{op:BY}{kY:Operator}
section
variable{Z:Sy}{X:Env}{w:World}{G:Nat->Addr}{s:Shared}{n:Nat}{h:Heap}{E:Value->Shared->Prop}
theorem qA(H:fi Z X){v:Nat}{o p:Int}{x}(e:NQ v o w' p=some x)(t:Tok):VR Z G n h x (.int (Z.σ v+o+(Z.σ w'+p)) t):=
 jc e (λ e=>nY e λ e=>gH e<|.i' (by rw[H.z0];lia)) λ e=>nY e λ e=>gH e<|.i' (by rw[H.z0];lia)
theorem oN(H:fi Z X){v:Nat}{o p:Int}{x}(e:KA v o w' p=some x)(t:Tok):VR Z G n h x (.int (Z.σ v+o-(Z.σ w'+p)) t):=
 nY e λ e=>gH e<|.i' (by rw[H.z0];lia)
theorem kM(H:fi Z X){a c x}{v}(ho:FJ op kY=true)(e:E8 op a c=some x)(U:VR Z G n s.heap a u)(V:VR Z G n s.heap c v)(q:∀t v',VR Z G n s.heap x v'->Q v' {s with toks:=t}):aD w A (inplaceOp kY u v) Q E s:=by
 refine gY e U λ _ _ _ e=>gY e V λ _ _ _ e=>?_;cases op<;>first|exact nn e|obtain rfl:=beq_iff_eq.mp ho
 .exact P.iadd_int (q _ _<|qA H e _)
 .exact P.isub_int (q _ _<|oN H e _)
theorem hG:∀k l:List I,app k l=k++l
 |[],l=>rfl|a::k,l=>congrArg (a:: ·)<|hG k l
theorem xo(a b:Str):(a++b).length=a.length+b.length:=Array.size_append
theorem xM(H:fi Z X){a c x}{v}(e:QX a c st=some (x,ab))(S:SR Z w G st s.heap)(U:VR Z G st.nx s.heap a u)(V:VR Z G st.nx s.heap c v)(q:Kt Z w G st s Q x ab):aD w A (binaryOp .Mult u v) Q E s:=by
 refine jW e U λ j _ e=>gY e V λ v o t e=>aX e λ xs hx e=>nY e λ e=>WB e λ e=>a5 (S.ob _ _<|AL hx) λ ws m g W l=>?_;rw[H.z0];refine wpAny_binaryOp_repeat_ref (T:="list") (U:="int") (by rfl) ⟨_,g,rfl⟩ (λ s'=>typeIs_int s' 0 t) noFill_list_mul F.fills_int_mul F.slot_int_rmul repeat_list F.slot_int_index.lookup
  (call_meets F.slot_int_rmul (typeIs_int s 0 t) F.entry_int_rmul (F.args_int_rmul_2 _ _) (int___rmul___int_list 0 t _ ws.toArray m)
   ⟨g,rfl,⟨_,g,rfl⟩,call_meets F.slot_list_mul ⟨_,g,rfl⟩ F.entry_list_mul (F.args_list_mul_2 _ _)
    (AutoListH.list___mul___list_int_3 _ ws.toArray m 0 t (λ h=>nomatch h) (λ h=>nomatch h) (λ h=>nomatch h)) ⟨g,?_⟩⟩)
 have B:List.foldl (λ J O=>J++O) #[] (List.replicate (if ws.toArray.isEmpty=true then 0 else(0:Int).toNat) ws.toArray)=(#[]:Array Value):=by
  rw[show(0:Int).toNat=0 from rfl,ite_self];rfl
 rw[B];exact jO S (xs:=[]) (us:=[]) .nil (dp _) e q
theorem xO(H:fi Z X){a c x}{v}(e:Q0 X a c st=some (x,ab))(S:SR Z w G st s.heap)(U:VR Z G st.nx s.heap a u)(V:VR Z G st.nx s.heap c v)(q:Kt Z w G st s Q x ab):aD w A (binaryOp .Mod u v) Q E s:=by
 refine gY e U λ v o _ e=>gY e V λ w' p t e=>nY e λ e=>Hm e λ hp e=>?_;have HB:0<=p:=cX (by decide) hp;rw[H.z0,Int.zero_add];refine PySem.AutoIntOps.mod_1 (λ z=>absurd hp (beq_iff_eq.mp z▸by decide)) ?_;rw[Int.fmod_eq_emod_of_nonneg _ HB];refine jc e (λ e=>nY e λ e=>?_) λ e=>WB e λ e=>aX e λ y B e=>?_
 .exact sj (M:=λ x ab=>Kt Z w G st s Q x ab->_) e (λ q=>q _ _ _ (.tok S _)<|.i' (by rw[H.z0,Int.zero_add,Int.zero_add];rfl)) q
 .refine sj (M:=λ x ab=>Kt Z w G st s Q x ab->_) e (λ q=>q _ _ _ (.tok S _)<|.i' ?_) q;have:=(H.cr _ _ _ B).2;rw[Int.toNat_of_nonneg HB]at this;rw[H.z0,Int.add_zero,Int.zero_add];exact this
theorem yF(H:fi Z X){a c x}{v}(e:U9 X a c st=some (x,ab))(S:SR Z w G st s.heap)(U:VR Z G st.nx s.heap a u)(V:VR Z G st.nx s.heap c v):Kt Z w G st s Q x ab->aD w A (binaryOp .Add u v) Q E s:=by
 refine jc e (λ e=>gY e U λ _ _ _ e=>gY e V λ _ _ _ e=>aX e λ y B e=>sj e λ q=>P.add_int<|q _ _ _ (.tok S _)<|qA H B _) λ e=>jc e (λ e=>?_) λ e=>?_
 .refine jW e U λ j _ e=>jW e V λ k _ e=>aX e λ xs hx e=>aX e λ ys B e=>AW e λ hl e q=>?_;refine a5 (S.ob _ _<|AL hx) λ ws m g W l=>a5 (S.ob _ _<|AL B) λ us m' g' J l'=>?_;rw[db,db]at hl;rw[hG]at e;refine P.add_list g g' ?_ (by rw[List.size_toArray,List.size_toArray,<-W.1,<-J.1,sizeLine_eq];exact ae hl (by decide));rw[List.append_toArray];exact jO S (W.app J) (by rw[List.length_append];exact ae hl (by decide)) e q
 .refine Ay e U λ j _ e=>Ay e V λ k _ e=>aX e λ z hz e=>sj e λ q=>?_;have hp:=List.find?_some hz;have hp:=fS hp;refine iI (H.cat z<|jb hz) λ c1 c2 O c4=>?_;rw[Nat.eq_of_beq_eq_true hp.1,Nat.eq_of_beq_eq_true hp.2]at c1 c4;rw[Nat.eq_of_beq_eq_true hp.1]at c2;rw[Nat.eq_of_beq_eq_true hp.2]at O;refine P.add_str ?_;rw[if_neg<|mt beq_iff_eq.mp c2,if_neg<|mt beq_iff_eq.mp O];exact⟨by rw[sizeLine_eq,xo];exact ae c4 (by decide),q _ _ _ (.tok S _)<|c1▸.s _ _⟩
theorem yD(H:fi Z X){a c x}{v}(ho:FJ op kY=true)(e:NI X op a c st=some (x,ab))(S:SR Z w G st s.heap)(U:VR Z G st.nx s.heap a u)(V:VR Z G st.nx s.heap c v)(q:Kt Z w G st s Q x ab):aD w A (binaryOp kY u v) Q E s:=by
 cases op<;>refine bq ho▸ ?_
 .exact yF H e S U V q
 .exact gY e U λ _ _ _ e=>gY e V λ _ _ _ e=>aX e λ y B e=>sj (M:=λ x ab=>Kt Z w G st s Q x ab->_) e (λ q=>P.sub_int<|q _ _ _ (.tok S _)<|oN H B _) q
 .exact xM H e S U V q
 .exact xO H e S U V q
end
variable{prog:Program}
section
variable{Z:Sy}{X:Env}{w:World}{G:Nat->Addr}{s:Shared}{n:Nat}{h:Heap}{E:Value->Shared->Prop}
theorem nQ{l:Addr}{items:Array Value}{m:Nat}{k:Int}{t:Tok}{v}{Q:Unit->Shared->Prop}(hl:IsL s.heap l items m)(hk:k=j\/(k<0/\ -(2^63)<=k/\k+items.size=j))(ZD:(j:Int)<2^63)(hj:j<items.size)(O:Q () {s with heap:=s.heap.update l<|Obj.mapSeq (·.setIfInBounds j v)}):wpAny (model prog w) A (setItem (.ref l) (.int k t) v) Q E s:=by
 have Eb:=hl.isList;have ho:s.heap.get? l=some {cls:=.type "list",dict:=none,data:=.seq items m,slots:= #[]}:=hl;have hd:({cls:=.type "list",dict:=none,data:=.seq items m,slots:= #[]}:Obj).data=.seq items m:=rfl;unfold setItem
 try with_reducible refine wpAny_holding ?_
 first|refine ah (ax ?_)|skip
 refine ah<|wpAny_sequenceKey Eb.typeIs (by rfl) ?_;refine ah (wpAny_callSpecial?_slot (name:=Str.ofString "__setitem__") Eb.typeIs slot_list_setitem
  (wpAny_call_entry slot_list_setitem Eb.typeIs entry_list_setitem ?_<|args_list_setitem _ _ _))
 show wpAny _ _ (Builtin.List.listSubscript? (.int k t)>>=_) _ _ s;have B:items[j]?=some items[j]:=Array.getElem?_eq_getElem hj;have hf:Builtin.List.listFitsIndex k=true:=by
  rcases hk with h|⟨J,h1,h2⟩
  .exact fitsIndex_of (by lia) (by lia)
  .exact fitsIndex_neg J h1
 clear ZD;refine ah<|wpAny_listSubscript_int hf ?_;clear hf;rcases hk with rfl|⟨J,h1,h2⟩
 .skip
  show wpAny _ _ ((seqItemAt l j>>=λ r=>pure<|r.map (j,·))>>=_) _ _ s;refine ah<|ah<|wpAny_seqItemAt ho hd<|ax ?_;rw[B];show wpAny _ _ (setSeqItemAt l j v>>=_) _ _ s;refine ah (wpAny_setSeqItemAt ho hd ?_)
  first
   |exact ah (ax<|ax ⟨.none,rfl,ax O⟩)
   |exact ax ⟨.none,rfl,ax O⟩
 .have Sd:=seqIndex_neg (n:=items.size) J (by lia);have h0:(k+items.size).toNat=j:=by lia
  rw[h0]at Sd;obtain⟨i,rfl⟩:∃i:Nat,k=Int.negSucc i:=by
   cases k with|ofNat n=>exact absurd J (Int.not_lt.mpr<|Int.natCast_nonneg n)|negSucc n=>exact⟨n,rfl⟩
  show wpAny _ _ ((Builtin.List.listItems (.ref l)>>=λ xs=>pure<|(seqIndex? (Int.negSucc i) xs.size).bind λ i=>xs[i]?.map (i,·))>>=_) _ _ s;refine ah<|ah ?_;show wpAny _ _ (seqItems? (.ref l)>>=_) _ _ s;refine ah<|wpAny_seqItems ho hd<|ax<|ax ?_;rw[Sd];simp only[Option.bind_some,B,Option.map_some];show wpAny _ _ (setSeqItemAt l j v>>=_) _ _ s;refine ah (wpAny_setSeqItemAt ho hd ?_)
  first
   |exact ah (ax<|ax ⟨.none,rfl,ax O⟩)
   |exact ax ⟨.none,rfl,ax O⟩
theorem kC:∀(l:List AV)(k:Nat),QM l k=l[k]?
 |[],0=>rfl|[],k+1=>rfl|a::l,0=>rfl|a::l,k+1=>kC l k
theorem br.at{k:Nat}{x}(V:br Z G n h xs ws)(e:xs[k]?=some x):∃y,ws[k]?=some y/\VR Z G n h x y:=
 have B:k<ws.length:=V.1▸(List.getElem?_eq_some_iff.mp e).1
 ⟨ws[k],List.getElem?_eq_getElem B,V.2 k x _ e<|List.getElem?_eq_getElem B⟩
structure IxR(m j:Nat)(i:Int):Prop where
 lt:j<m
 at':i=j\/(i<0/\i+m=j)
 lo: -20000<=i
 hi:i<20000
theorem iS(H:fi Z X){k}{P:Prop}(e:mH xs k=some j)(V:VR Z G n h k u)(q:∀i t,u=.int i t->IxR xs.length j i->P):P:=
 gY (M:=λ _ u=>(∀i t,u=.int i t->IxR xs.length j i->P)->P) e V (λ v o t e=>nY e λ e q=>q _ t rfl (by
  rw[H.z0,Int.zero_add];cases o with|ofNat m=>exact AK e λ q e=>AK e λ q2 e=>gH e ⟨db xs▸q,.inl rfl,by simp,by lia⟩|negSucc m=>exact AK e λ q e=>AK e λ q2 e=>gH e<|db xs▸⟨by lia,.inr ⟨Int.negSucc_lt_zero m,by lia⟩,by lia,by lia⟩)) q
theorem nj{v}:∀{j:Nat}{xs xs':List AV}{ws:List Value},br Z G n h xs ws->VR Z G n h y v->xz y j xs=some xs'->br Z G n h xs' (ws.set j v)/\xs'.length=xs.length
 |0,_,xs',ws,V,Y,e=>xB (M:=λ xs=>br Z G n h xs ws->_/\_=xs.length) e (λ a l e V=>V.Ah λ u us r t=>gH e ⟨.cons Y t,rfl⟩) V|j+1,_,xs',ws,V,Y,e=>xB (M:=λ xs=>br Z G n h xs ws->_/\_=xs.length) e (λ a l e V=>aX e λ l' B e=>V.Ah λ u us r t=>xA (nj t Y B) λ h1 h2=>gH e ⟨.cons r h1,congrArg (· +1) h2⟩) V
theorem iM{i:Int}{m:Nat}(B:j<m)(h:i=j\/(i<0/\i+m=j)):seqIndex? i m=some j:=by
 unfold seqIndex?;rcases h with rfl|⟨h1,h2⟩
 .rw[if_neg<|Int.not_lt.mpr<|Int.natCast_nonneg j,if_pos (by rw[Bool.and_eq_true,decide_eq_true_eq,decide_eq_true_eq];lia)];rfl
 .rw[if_pos h1,if_pos (by rw[Bool.and_eq_true,decide_eq_true_eq,decide_eq_true_eq];grind)];congr 1;lia
theorem fI.typeIs{d:Addr}{r:Option AV}(L:fI Z w G n s.heap d u r):s.TypeIs (.ref d) "dict" :=by
 cases L with|gen _ _ _ _ _ d=>exact d.typeIs|mix _ _ _ d=>exact d.typeIs
def Vp(w:World)(A:Around)(s:Shared)(Q E:Value->Shared->Prop)(u v:Value):Prop:=∃T id,s.TypeIs u T/\typeLookup (.type T) "__getitem__" =pure (some<|.builtin id)/\aD w A (getItem u v) Q E s
theorem fI.SG{d:Addr}{r:Option AV}(L:fI Z w G n s.heap d u r)(B:A.units+10<cLine)(e:r=some y)(q:∀t v,VR Z G n s.heap y v->Q v {s with toks:=t}):Vp w A s Q E (.ref d) u:=⟨"dict",_,L.typeIs,slot_dict_getitem.lookup,(e▸L).get B q⟩
theorem qb(H:fi Z X)(α:bB Z)(D:yI Z X){a k}{v}(e:yg X a k st=some y)(S:SR Z w G st s.heap)(U:VR Z G st.nx s.heap a u)(V:VR Z G st.nx s.heap k v)(O:A.units+10<cLine)(q:∀t v',VR Z G st.nx s.heap y v'->Q v' {s with toks:=t}):Vp w A s Q E u v:=by
 cases a with
 |r j=>
  refine U.inR λ hj=>aX e λ o ho e=>jc e (λ e=>aX e λ xs hx e=>?_) λ e=>aX e λ r J e=>(tj H α (S.ob j o ho) V J).SG O e q;refine a5 (pM hx▸S.ob j o ho:OR Z w G st.nx s.heap (G j)<|.list xs) λ ws m g W l=>aX e λ i hi e=>iS H hi V λ i' t z h=>?_;rw[kC]at e;refine a8 (W.at e) λ z' hz B=>?_;have L:s.heap.IsList (G j) ws.toArray:=⟨_,g,rfl,m,rfl⟩;have hl:xs.length=ws.toArray.size:=W.1;rw[z];refine⟨"list",_,L.typeIs,slot_list_getitem.lookup,?_⟩;have:=h.lt;have:=h.lo;have:=h.hi;rcases h.at' with h2|⟨h2,h3⟩
  .rw[h2];exact wpAny_getItem_list L (Int.natCast_nonneg i) (by lia) (by rw[Int.toNat_natCast];simpa using hz) (q s.toks _ B)
  .refine wpAny_getItem_list_neg L h2 (by lia) (by grind) ?_ (q s.toks _ B);rw[<-hl,h3,Int.toNat_natCast];simpa using hz
 |g j=>exact(VR.un U:u=_)▸aX e λ es he e=>aX e λ r J e=>xA (D j es he) λ lo hd=>(ti H α (w:=w) (hd w s.heap S.ready G st.nx) V J).SG O e q|t xs=>
  refine U.qT λ ws a' o m ho hc hd W=>aX e λ i hi e=>iS H hi V λ i' t z h=>?_;rw[kC]at e;refine a8 (W.at e) λ z' hz B=>?_;have L:IsTup s.heap a' ws.toArray:=⟨_,ho,hc,m,hd⟩;have hl:xs.length=ws.toArray.size:=W.1;rw[z];have:=h.lo;have:=h.hi;exact⟨"tuple",_,L.typeIs,slot_tuple_getitem.lookup,PyProof.Rows.getItem_tuple L (by lia) (by lia) (iM (hl▸h.lt)<|hl▸h.at') (by simpa using hz)<|q s.toks _ B⟩
 |_=>exact nn e
end
variable{ys:List AV}
section
variable{Z:Sy}{X:Env}{w:World}{G:Nat->Addr}{s:Shared}{n:Nat}{h:Heap}{E:Value->Shared->Prop}
theorem oT(H:fi Z X)(α:bB Z){a k}{v z}{Q:Unit->Shared->Prop}(e:Ap X a k y st=some ab)(S:SR Z w G st s.heap)(U:VR Z G st.nx s.heap a u)(V:VR Z G st.nx s.heap k v)(Y:VR Z G st.nx s.heap y z)(hu:A.units+10<cLine)(q:Ku Z w G st s Q ab):aD w A (setItem u v z) Q E s:=by
 refine jW e U λ j hj e=>aX e λ o ho e=>aX e λ o' J e=>?_;have R:=S.ob j o ho;have fin:∀{h' t},Heap.SameBut (G j) s.heap h'->(bh s.heap h'->OR Z w G st.nx h' (G j) o')->Q () {s with heap:=h',toks:=t}:=λ B D=>xA (S.im ho B D) λ S' K=>gH (M:=λ ab=>Ku Z w G st s Q ab->_) e (λ q=>q _ ⟨⟨_,_,rfl⟩,S',K⟩) q;cases o with
 |list xs=>
  refine a5 R λ ws m g W l=>aX J λ i hi J=>aX J λ xs' hx J=>iS H hi V λ i' t z3 h=>?_;have hl:xs.length=ws.length:=W.1;have L:IsL s.heap (G j) ws.toArray m:=g;have:=h.lt;have:=h.lo;have:=h.hi;rw[z3];refine nQ L (j:=i) ?_ (by lia) (by rw[List.size_toArray];lia) (fin (Heap.SameBut.update ..) λ tk=>xA (nj W Y hx) λ r1 r2=>?_)
  .exact h.at'.imp id λ h=>⟨h.1,by grind,by rw[List.size_toArray];lia⟩
  .have L':=L.update<|λ xs=>xs.setIfInBounds i z;rw[List.setIfInBounds_toArray]at L';exact gH J ⟨ws.set i z,_,L',r1.keeps (a9 _) (λ _ _=>rfl) tk,r2.symm▸l⟩
 |dict es=>exact AW J λ hl J=>aX J λ f8 he J=>DR.set H α hu R V Y he (db es▸hl) λ h' t O B=>fin B λ _=>gH J O|map es=>exact aX J λ f8 he J=>MR.set H α hu R V Y he λ h' t O B=>fin B λ _=>gH J O|_=>exact nn J
theorem IY:∀(k:Nat)(l:List I),tk k l=l.take k
 |0,_=>rfl|k+1,[]=>rfl|k+1,a::l=>congrArg (a:: ·)<|IY k l
theorem EO:∀(k:Nat)(l:List I),dr k l=l.drop k
 |0,_=>rfl|k+1,[]=>rfl|k+1,_::l=>EO k l
theorem br.take(V:br Z G n h xs ws)(k:Nat):br Z G n h (xs.take k) (ws.take k):=by
 refine⟨by simp[V.1],λ i x y a b=>?_⟩;rw[List.getElem?_take]at a b;split at a
 .rename_i q;rw[if_pos q]at b;exact V.2 i x y a b
 .exact nn a
theorem br.drop(V:br Z G n h xs ws)(k:Nat):br Z G n h (xs.drop k) (ws.drop k):=by
 refine⟨by simp[V.1],λ i x y a b=>?_⟩;rw[List.getElem?_drop]at a b;exact V.2 _ x y a b
inductive nJ(Z:Sy)(G:Nat->Addr)(n:Nat)(h:Heap):Option AV->Value->Prop
 |none:nJ Z G n h none .none
 |some {a:AV} {v:Value}:VR Z G n h a v->nJ Z G n h (some a) v
theorem Qo{r:β}(H:fi Z X){a}{f:Nat->Option β}{M:AV->Value->Prop}(e:VO a f=some r)(U:VR Z G n h a u)(k:∀m t,f m=some r->M (.i 0<|Int.ofNat m) (.int (m:Nat) t)):M a u:=
 gY e U λ v o t e=>nY (M:=λ v=>M (.i v o)<|.int (Z.σ v+o) t) e λ e=>by
  cases o with|ofNat m=>rw[H.z0,Int.zero_add];exact k m t e|negSucc m=>exact nn e
structure ms(Z:Sy)(G:Nat->Addr)(n:Nat)(h:Heap)(ys:List AV)(ws:List Value)(vl vh:Value)(l u:Option Int):Prop where
 lo:IsPart vl l
 hi:IsPart vh u
 len:(slicePick ws.toArray l u none).toList.length<=ws.length
 v:br Z G n h ys (slicePick ws.toArray l u none).toList
theorem vb(H:fi Z X){lo hi:Option AV}{vl vh}(e:TE xs lo hi=some ys)(V:br Z G n h xs ws)(L:nJ Z G n h lo vl)(U:nJ Z G n h hi vh):∃l u,ms Z G n h ys ws vl vh l u:=by
 cases L with
 |none=>cases U with|none=>exact nn e|some r=>exact Qo H (M:=λ _ vh=>∃l u,ms Z G n h ys ws .none vh l u) e r λ m t e=>⟨none,some (m:Int),.none,.int _ _,by rw[slicePick_upto',List.toList_toArray,List.length_take];exact Nat.min_le_right _ _,by rw[slicePick_upto',List.toList_toArray];exact gH e<|IY m xs▸V.take m⟩
 |some r=>cases U with|some _=>exact nn e|none=>exact Qo H (M:=λ _ vl=>∃l u,ms Z G n h ys ws vl .none l u) e r λ m t e=>⟨some (m:Int),none,.int _ _,.none,by rw[slicePick_from',List.toList_toArray,List.length_drop];exact Nat.sub_le _ _,by rw[slicePick_from',List.toList_toArray];exact gH e<|EO m xs▸V.drop m⟩
end
structure jp(Z:Sy)(X:Env)(gk:Str->AV->GK)(an:Nat->Bool):Prop where
 x:fi Z X
 inj:bB Z
 cls:rR Z an
 sd:yI Z X
 glob:yM Z gk
 bn0:Z.bn 0="len"
 bn1:Z.bn 1="isinstance"
 bn2:Z.bn 2="sorted"
 bn6:Z.bn 6="max"
 tn0:Z.tn 0="int"
 tn1:Z.tn 1="str"
 tn2:Z.tn 2="tuple"
 tn3:Z.tn 3="list"
 tn5:Z.tn 5="range"
def z_(Z:Sy)(w:World)(gk:Str->AV->GK)(an:Nat->Bool)(n:Nat)(f:Nat->Cs->IE->St->Option (AV×St)):Prop:=
 ∀{L cs ir st v ab b},f L cs ir st=some (v,ab)->bf ab.T v=some b->∀{m sc e},aE Z.nm gk an m sc ir e=true->∀{A env G s},bt n A->a7 Z G st.nx L cs sc env->SR Z w G st s.heap->
  ∀{Q:Bool->Shared->Prop}{E:Value->Shared->Prop},Kb Z w G st s Q b ab->aD w A (isTrue e env<|eval e env) Q E s
variable{whole:Sem Value}{r':IE}{l' Oq:PySem.Expr}
section
variable{Z:Sy}{X:Env}{w:World}{gk:Str->AV->GK}{an:Nat->Bool}{n m:Nat}{ih:Ih}{L:Nat}{cs:Cs}{G:Nat->Addr}{s:Shared}{E:Value->Shared->Prop}
theorem cH.kj(S:SR Z w G st s.heap)(a:cH Z w G st s ay ab s')(t:Nat):cH Z w G st s ay ab {s' with toks:=t}:=a.trans S<|.tok a.sr t
theorem bt.un(r:bt n A):A.units+10<cLine:=by have:=r.units;show A.units+10<9900;lia
theorem zU{k:Nat}{a}{attr}(h:aE Z.nm gk an k sc a e=true)(hp:ph a=true):attributeBase e attr env whole=whole:=by
 cases k with|zero=>exact ff h|succ k=>
  cases a with
  |call g as=>
   refine i5 h λ f l ks p h=>?_;cases as with|nil=>exact ff hp|cons a as=>cases l with|nil=>exact ff (aR<|aR h)|cons x l=>exact(ord f).cal x l ks p attr env whole
  |bT o x as=>exact i5 h λ f l ks p h=>ez (aR h) λ _ _ _ _=>rfl|_=>exact sJ (b:=(Nat.beq · 16)) h (ord e).abs rfl attr env whole
theorem E9{a}{x:Nat}{b}{y}{k:Nat}(R:jp Z X gk an)(hE:jf Z w gk an n ih.E)(h:MX ih L cs a x st=some (v,ab))(hx:an x=true)(hy:Z.nm x=y)(hc:aE Z.nm gk an k sc a b=true)(hp:ph a=true)(r:bt n A)(N:a7 Z G st.nx L cs sc env)(S:SR Z w G st s.heap)(q:Kt Z w G st s Q v ab):aD w A (eval (.Attribute b y pos) env) Q E s:=
 dR h λ o ac e1 h=>aX h λ y' B h=>by
 subst hy;rw[arm_eval_Attribute,zU hc hp];exact ah<|hE e1 hc r N S λ az u aq J V=>ah<|wpAny_standAt<|ah<|wpAny_holding<|kG R.cls B hx J.sr V λ v' t O=>ah<|wpAny_letTemporaryGo<|ax<|q.eq h az _ _ (J.kj S t) O
theorem E6{l}{k:Nat}(R:jp Z X gk an)(O:jf Z w gk an n ih.E)(h:MW X ih L cs op l r' st=some (v,ab))(ho:FJ op kY=true)(hl:aE Z.nm gk an k sc l l'=true)(hr:aE Z.nm gk an k sc r' Oq=true)(r:bt n A)(N:a7 Z G st.nx L cs sc env)(S:SR Z w G st s.heap)(q:Kt Z w G st s Q v ab):aD w A (eval (.BinOp l' kY Oq pos) env) Q E s:=
 dR h λ a ac e1 h=>dR h λ c af e2 h=>wpAny_BinOp<|O e1 hl r N S λ az u aq B V=>O e2 hr r (N.kp B.kp) B.sr λ aa u' ci J V'=>yD R.x ho h J.sr (V.kp B.sr J.kp) V'<|q.lY S<|B.trans S J
theorem Df{a}{b}{k:Nat}(R:jp Z X gk an)(O:jf Z w gk an n ih.E)(h:TH ih L cs a st=some (v,ab))(hc:aE Z.nm gk an k sc a b=true)(r:bt n A)(N:a7 Z G st.nx L cs sc env)(S:SR Z w G st s.heap)(q:Kt Z w G st s Q v ab):aD w A (eval (.UnaryOp .USub b pos) env) Q E s:=by
 refine dR h λ o ac J h=>wpAny_UnaryOp<|O J hc r N S λ az u aq B V=>gY h V λ v o t h=>nY h λ h=>P.neg_int<|q.eq h az _ _ (B.kj S _)<|.i' (by rw[R.x.z0,Int.zero_add,Int.zero_add])
theorem wN{op}{kY}{l}{k:Nat}(R:jp Z X gk an)(O:jf Z w gk an n ih.E)(h:MV X ih L cs op l r' st=some (v,ab))(ho:Nt op kY=true)(hl:aE Z.nm gk an k sc l l'=true)(hr:aE Z.nm gk an k sc r' Oq=true)(hm:behindInMarks kY Oq=false)(r:bt n A)(N:a7 Z G st.nx L cs sc env)(S:SR Z w G st s.heap):
  ∃b,v=.b b/\(Kt Z w G st s Q v ab->aD w A (eval (.Compare l' [kY] [Oq] pos) env) Q E s)/\∀{Q:Bool->Shared->Prop}{whole:Sem Value},Kb Z w G st s Q b ab->aD w A (isTrue (.Compare l' [kY] [Oq] pos) env whole) Q E s:=
 dR h λ a ac e1 h=>dR h λ c af e2 h=>aX h λ b e3 h=>(cC b (sP h).1.symm (λ q=>wpAny_Compare1 (O e1 hl r N S λ az u aq B V=>O e2 hr r (N.kp B.kp) B.sr λ aa u' ci J V'=>qt R.x R.inj R.sd ho e3 J.sr (V.kp B.sr J.kp) V' r.un λ t=>q.eq h aa _ _ ((B.trans S J).kj S t)<|.b b) hm)<|λ q=>wpAny_isTrue_Compare1 (O e1 hl r N S λ az u aq B V=>O e2 hr r (N.kp B.kp) B.sr λ aa u' ci J V'=>qt R.x R.inj R.sd ho e3 J.sr (V.kp B.sr J.kp) V' r.un λ t=>wpAny_truthy_bool<|q.eq h aa _<|(B.trans S J).kj S t) hm)
theorem C9{a}{b}{k:Nat}(R:jp Z X gk an)(O:jf Z w gk an n ih.E)(h:MU ih L cs a st=some (v,ab))(hc:aE Z.nm gk an k sc a b=true)(r:bt n A)(N:a7 Z G st.nx L cs sc env)(S:SR Z w G st s.heap)(q:Kt Z w G st s Q v ab):aD w A (eval (.UnaryOp .Not b pos) env) Q E s:=
 dR h λ o ac J h=>aX h λ x hx h=>wpAny_UnaryOp (O J hc r N S λ az u aq B V=>by
  show wpAny _ _ (unaryOp .Not u) _ _ _;exact wpAny_holding<|ah<|fV R.x B.sr hx V λ t=>ax<|q.eq h az _ _ (B.kj S t)<|.b _)
theorem Cq{a k}{b i}{m:Nat}(R:jp Z X gk an)(hE:jf Z w gk an n ih.E)(h:MT X ih L cs a k st=some (v,ab))(ha:aE Z.nm gk an m sc a b=true)(hk:aE Z.nm gk an m sc k i=true)(r:bt n A)(N:a7 Z G st.nx L cs sc env)(S:SR Z w G st s.heap)(q:Kt Z w G st s Q v ab):aD w A (eval (.Subscript b i pos) env) Q E s:=dR h λ o ac e1 h=>dR h λ c af e2 h=>aX h λ y e3 h=>Subscript_ (hE e1 ha r N S λ az u aq B V=>hE e2 hk r (N.kp B.kp) B.sr λ aa u' ci J V'=>
 a5 (qb (Q:=Q) (E:=E) (A:=A) R.x R.inj R.sd e3 J.sr (V.kp B.sr J.kp) V' r.un λ t v' O=>q.eq h aa _ _ ((B.trans S J).kj S t) O) λ T id t1 t2 t3=>tail_any t1 t2 t3<|sJ (b:=(Nat.beq · 26)) hk (ord i).sub (oC k).2.2 u u')
def mK(Z:Sy)(w:World)(G:Nat->Addr)(st:St)(s:Shared)(Q:Value->Shared->Prop)(x:Option AV)(ab:St):Prop:=∀ay v' s',cH Z w G st s ay ab s'->nJ Z ay ab.nx s'.heap x v'->Q v' s'
theorem pj{lo:Option IE}{l:Option PySem.Expr}{m:Nat}{x:Option AV}(O:jf Z w gk an n ih.E)(h:oE ih L cs lo st=some (x,ab))(hc:yA (aE Z.nm gk an m sc) lo l=true)(r:bt n A)(N:a7 Z G st.nx L cs sc env)(S:SR Z w G st s.heap)(q:mK Z w G st s Q x ab):aD w A (evalPart l env) Q E s:=by
 cases lo with|none=>exact FX hc (evalPart_none env▸ax (sj (M:=λ x ab=>mK Z w G st s Q x ab->_) h (λ q=>q G _ _ (.refl S) .none) q))|some e=>exact t4 hc λ y hc=>dR (show bF (ih.E L cs e st) (λ v st=>some (some v,st))=_ from h) λ u ac J h=>evalPart_some y env▸O J hc r N S λ az u aq B V=>sj (M:=λ x ab=>mK Z w G st s Q x ab->_) h (λ q=>q az _ _ B<|.some V) q
theorem nJ.kp{G:Nat->Addr}{h}{x:Option AV}{v}(P:nJ Z G st.nx h x v)(S:SR Z w G st h)(K:Kp G st h ay ab h'):nJ Z ay ab.nx h' x v:=by
 cases P with|none=>exact .none|some V=>exact .some<|V.kp S K
theorem Cv{a}{lo hi:Option IE}{b}{l u:Option PySem.Expr}{p}{m:Nat}(R:jp Z X gk an)(hE:jf Z w gk an n ih.E)(h:Ib ih L cs a lo hi st=some (v,ab))(ha:aE Z.nm gk an m sc a b=true)(hl:yA (aE Z.nm gk an m sc) lo l=true)(hu:yA (aE Z.nm gk an m sc) hi u=true)(r:bt n A)(N:a7 Z G st.nx L cs sc env)(S:SR Z w G st s.heap)(q:Kt Z w G st s Q v ab):aD w A (eval (.Subscript b (.Slice l u none p) pos) env) Q E s:=by
 refine dR h λ o ac e1 h=>dR h λ xl af e2 h=>dR h λ xh aJ e3 h=>?_;refine Subscript_<|hE e1 ha r N S λ az cM aq O V=>wpAny_Slice<|pj hE e2 hl r (N.kp O.kp) O.sr λ aa vl ci B bO=>pj hE e3 hu r ((N.kp O.kp).kp B.kp) B.sr λ e_ vh bM J qB=>?_;rw[evalPart_none];refine ax<|jW h ((V.kp O.sr B.kp).kp B.sr J.kp) λ j hj h=>aX h λ xs hx h=>aX h λ ys hy h=>?_;refine a5 (J.sr.ob j _<|AL hx) λ ws c g W len=>j_ (vb R.x hy W (bO.kp B.sr J.kp) qB) λ x1 x2 P=>?_;have J4:bM.heap.IsList (e_ j) ws.toArray:=⟨_,g,rfl,c,rfl⟩;have uv:=cH.VK J.sr {cls:=.type "slice",data:=.fields #[vl,vh,.none]};have wl:=W.1;have pl:=P.v.1;have aK:=P.len;exact tail_any (ops:=[.ref bM.heap.objs.size,.ref<|e_ j]) (J4.push _).typeIs list_getitem_lookup (wpAny_getItem_list_slice (J4.push _) (Heap.IsSliceOf.new ..) P.lo P.hi .none (λ h=>nomatch h)
  (jO (s:={bM with heap:=bM.heap.push {cls:=.type "slice",data:=.fields #[vl,vh,.none]}}) uv.sr (P.v.kp J.sr uv.kp) (by lia) h<|q.lY S<|((O.trans S B).trans S J).trans S uv)
  (by rw[List.size_toArray,sizeLine_eq];lia)) rfl
end
section
variable{M:Model}{E:Value->Shared->Prop}{s:Shared}
theorem Sc{x y}(h:wpAny M A (eval x env) (λ v aq=>wpAny M A (truthy v) (λ t ci=>if t then wpAny M A (eval (.BoolOp .And (y::rest) pos) env) Q E ci else Q v ci) E aq) E s):
  wpAny M A (eval (.BoolOp .And (x::y::rest) pos) env) Q E s:=by
 show wpAny M A (do
  let v<-eval x env
  standAt pos
  let t<-holding [v] (truthy v)
  match BoolOp.And,t with|.And,false|.Or,true=>pure v|_,_=>boolOp pos .And (eval y env::evalEach rest env)) Q E s
 refine ah<|cN h (λ v aq J=>ah<|wpAny_standAt<|ah<|wpAny_holding<|cN J (λ t ci B=>?_) λ _ _ x=>x) λ _ _ x=>x;cases t with|false=>exact ax B|true=>exact B
theorem Tl{x y}(h:wpAny M A (eval x env) (λ v aq=>wpAny M A (truthy v) (λ t ci=>if t then Q v ci else wpAny M A (eval (.BoolOp .Or (y::rest) pos) env) Q E ci) E aq) E s):
  wpAny M A (eval (.BoolOp .Or (x::y::rest) pos) env) Q E s:=by
 show wpAny M A (do
  let v<-eval x env
  standAt pos
  let t<-holding [v] (truthy v)
  match BoolOp.Or,t with|.And,false|.Or,true=>pure v|_,_=>boolOp pos .Or (eval y env::evalEach rest env)) Q E s
 refine ah<|cN h (λ v aq J=>ah<|wpAny_standAt<|ah<|wpAny_holding<|cN J (λ t ci B=>?_) λ _ _ x=>x) λ _ _ x=>x;cases t with|true=>exact ax B|false=>exact B
end
variable{t' a' c':PySem.Expr}
section
variable{Z:Sy}{X:Env}{w:World}{gk:Str->AV->GK}{an:Nat->Bool}{n m:Nat}{ih:Ih}{L:Nat}{cs:Cs}{G:Nat->Addr}{s:Shared}{E:Value->Shared->Prop}
theorem v_{t a c}{k:Nat}(O:jf Z w gk an n ih.E)(hT:z_ Z w gk an n ih.E)(h:TK ih L cs t a c st=some (v,ab))(ht:aE Z.nm gk an k sc t t'=true)(ha:aE Z.nm gk an k sc a a'=true)(hc:aE Z.nm gk an k sc c c'=true)(r:bt n A)(N:a7 Z G st.nx L cs sc env)(S:SR Z w G st s.heap):
  (Kt Z w G st s Q v ab->aD w A (eval (.IfExp t' a' c' pos) env) Q E s)/\
   ∀{b:Bool}{Q:Bool->Shared->Prop}{whole:Sem Value},bf ab.T v=some b->Kb Z w G st s Q b ab->aD w A (isTrue (.IfExp t' a' c' pos) env whole) Q E s:=dR h λ o ac J h=>aX h λ x hx h=>by
 refine⟨λ q=>wpAny_IfExp<|hT J hx ht r N S λ az aq B=>?_,λ{b Q' whole} hb q=>?_⟩
 .cases x with|true=>exact O h ha r (N.kp B.kp) B.sr (q.lY S B)|false=>exact O h hc r (N.kp B.kp) B.sr (q.lY S B)
 .show wpAny _ _ (isTrue t' env (eval t' env)>>=λ b=>if b=true then isTrue a' env (eval a' env)else isTrue c' env (eval c' env)) _ _ _;refine ah<|hT J hx ht r N S λ az aq B=>?_;cases x with|true=>exact hT h hb ha r (N.kp B.kp) B.sr (q.lY S B)|false=>exact hT h hb hc r (N.kp B.kp) B.sr<|q.lY S B
theorem zS{es}{l}{k:Nat}(h:aV (aE Z.nm gk an k sc) es l=true):aE Z.nm gk an (k+1) sc (.and es) (.BoolOp .And l pos)=true:=h
theorem EW{es}{l}{k:Nat}(h:aV (aE Z.nm gk an k sc) es l=true):aE Z.nm gk an (k+1) sc (.or es) (.BoolOp .Or l pos)=true:=h
theorem gn{a:I}{k:List I}{l:List β}(h:aV f (a::k) l=true):∃b l',l=b::l'/\f a b=true/\aV f k l'=true:=by
 cases l with|nil=>exact ff h|cons b l=>exact⟨b,l,rfl,fS h⟩
theorem lr{l:List β}(h:aV f [] l=true):l=[]:=by cases l<;>first|rfl|exact ff h
@[elab_as_elim] theorem q5{a:I}{k:List I}{l:List β}{M:List β->Prop}(h:aV f (a::k) l=true)(q:∀b l,f a b=true->aV f k l=true->M (b::l)):M l:=by
 cases l with|nil=>exact ff h|cons b l=>exact q b l (aL h)<|aR h
@[elab_as_elim] theorem uy{l:List β}{M:List β->Prop}(h:aV f [] l=true)(q:M []):M l:=by
 cases l with|nil=>exact q|cons b l=>exact ff h
theorem wV{es}{l}{k:Nat}(R:jp Z X gk an)(O:jf Z w gk an n ih.E)(hT:z_ Z w gk an n ih.E)(h:TM ih L cs es st=some (v,ab))(hc:aV (aE Z.nm gk an k sc) es l=true)(r:bt n A)(N:a7 Z G st.nx L cs sc env)(S:SR Z w G st s.heap):
  (Kt Z w G st s Q v ab->aD w A (eval (.BoolOp .And l pos) env) Q E s)/\
   ∀{b:Bool}{Q:Bool->Shared->Prop}{whole:Sem Value},bf ab.T v=some b->Kb Z w G st s Q b ab->aD w A (isTrue (.BoolOp .And l pos) env whole) Q E s:=by
 cases es with|nil=>exact nn h|cons e es=>
  refine q5 hc λ x l c1 c2=>?_;cases es with
  |nil=>
   have h:ih.E L cs e st=some (v,ab):=h;refine uy c2 ⟨λ q=>O h c1 r N S q,λ{b Q' whole} hb q=>wpAny_isTrue_BoolOp<|wpAny_allTrue_And_cons<|hT h hb c1 r N S λ ay s' a=>?_⟩;have q:=q ay s' a;cases b with|true=>exact wpAny_allTrue_And_nil q|false=>exact q
  |cons e2 es=>
   refine a5 (gn c2) λ y l z2 c3 c4=>?_;subst z2;refine dR (show bF (ih.E L cs e st) (λ v st=>bd (bf st.T v) λ x=>match x with|true=>ih.E L cs (.and (e2::es)) st|false=>some (v,st))=_ from h) λ o ac e1 h=>aX h λ x' hx h=>⟨λ q=>?_,λ{b Q' whole} hb q=>?_⟩
   .refine Sc (O e1 c1 r N S λ az u aq B V=>fV R.x B.sr hx V λ t=>?_);have J:=B.kj S t;cases x' with|true=>exact O h (zS c2) r (N.kp J.kp) J.sr (q.lY S J)|false=>exact q.eq h _ _ _ J V
   .refine wpAny_isTrue_BoolOp (wpAny_allTrue_And_cons<|hT e1 hx c1 r N S λ az aq B=>?_);cases x' with|true=>exact(arm_isTrue_BoolOp .. ▸hT h hb (zS (pos:=pos) c2) r (N.kp B.kp) B.sr (Q:=Q') (E:=E) (q.lY S B))|false=>exact sj (M:=λ v ab=>bf ab.T v=some b->Kb Z w G st s Q' b ab->Q' false aq) h (λ hb q=>sI (hx.symm.trans hb)▸q _ _ B) hb q
theorem y8{es}{l}{k:Nat}(R:jp Z X gk an)(O:jf Z w gk an n ih.E)(hT:z_ Z w gk an n ih.E)(h:eOr ih L cs es st=some (v,ab))(hc:aV (aE Z.nm gk an k sc) es l=true)(r:bt n A)(N:a7 Z G st.nx L cs sc env)(S:SR Z w G st s.heap):
  (Kt Z w G st s Q v ab->aD w A (eval (.BoolOp .Or l pos) env) Q E s)/\
   ∀{b:Bool}{Q:Bool->Shared->Prop}{whole:Sem Value},bf ab.T v=some b->Kb Z w G st s Q b ab->aD w A (isTrue (.BoolOp .Or l pos) env whole) Q E s:=by
 cases es with|nil=>exact nn h|cons e es=>
  refine q5 hc λ x l c1 c2=>?_;cases es with
  |nil=>
   have h:ih.E L cs e st=some (v,ab):=h;refine uy c2 ⟨λ q=>O h c1 r N S q,λ{b Q' whole} hb q=>wpAny_isTrue_BoolOp<|wpAny_allTrue_Or_cons<|hT h hb c1 r N S λ ay s' a=>?_⟩;have q:=q ay s' a;cases b with|false=>exact wpAny_allTrue_Or_nil q|true=>exact q
  |cons e2 es=>
   refine a5 (gn c2) λ y l z2 c3 c4=>?_;subst z2;refine dR (show bF (ih.E L cs e st) (λ v st=>bd (bf st.T v) λ x=>match x with|false=>ih.E L cs (.or (e2::es)) st|true=>some (v,st))=_ from h) λ o ac e1 h=>aX h λ x' hx h=>⟨λ q=>?_,λ{b Q' whole} hb q=>?_⟩
   .refine Tl (O e1 c1 r N S λ az u aq B V=>fV R.x B.sr hx V λ t=>?_);have J:=B.kj S t;cases x' with|false=>exact O h (EW c2) r (N.kp J.kp) J.sr (q.lY S J)|true=>exact q.eq h _ _ _ J V
   .refine wpAny_isTrue_BoolOp (wpAny_allTrue_Or_cons<|hT e1 hx c1 r N S λ az aq B=>?_);cases x' with|false=>exact(arm_isTrue_BoolOp .. ▸hT h hb (EW (pos:=pos) c2) r (N.kp B.kp) B.sr (Q:=Q') (E:=E) (q.lY S B))|true=>exact sj (M:=λ v ab=>bf ab.T v=some b->Kb Z w G st s Q' b ab->Q' true aq) h (λ hb q=>sI (hx.symm.trans hb)▸q _ _ B) hb q
theorem AD{a}{b}{k:Nat}(hT:z_ Z w gk an n ih.E)(h:MU ih L cs a st=some (v,ab))(hc:aE Z.nm gk an k sc a b=true)(r:bt n A)(N:a7 Z G st.nx L cs sc env)(S:SR Z w G st s.heap){x:Bool}(hb:bf ab.T v=some x){Q:Bool->Shared->Prop}(q:Kb Z w G st s Q x ab):
  aD w A (isTrue (.UnaryOp .Not b pos) env whole) Q E s:=
 dR h λ o ac J h=>aX h λ y O h=>wpAny_isTrue_Not<|hT J O hc r N S λ az aq B=>sj (M:=λ v ab=>bf ab.T v=some x->Kb Z w G st s Q x ab->Q (!y) aq) h (λ hb q=>sI hb▸q _ _ B) hb q
noncomputable def IR(ir:IE):Bool:=match ir with|.not _=>true|.and _=>true|.or _=>true|.ite _ _ _=>true|.cmp _ _ _=>true|_=>false
theorem tJ{k:Nat}(h:aE Z.nm gk an k sc ir e=true)(hs:IR ir=false):isTrue e env whole=(do let v<-whole;standAt e.pos;holding [v] (truthy v)):=by
 cases ir with
 |neg a=>cases k with|zero=>exact ff h|succ k=>exact fo h λ o b p h=>by rw[bq<|aL h];rfl
 |not _=>exact ff hs.symm|and _=>exact ff hs.symm|or _=>exact ff hs.symm|ite _ _ _=>exact ff hs.symm|cmp _ _ _=>exact ff hs.symm|_=>exact sJ (b:=λ i=>[0,3,5,15].any (Nat.beq i)) h (ord e).tru rfl env whole
end
section
variable{Z:Sy}{X:Env}{w:World}{gk:Str->AV->GK}{an:Nat->Bool}{n m:Nat}{ih:Ih}{L:Nat}{cs:Cs}{G:Nat->Addr}{s:Shared}{E:Value->Shared->Prop}
theorem kN{x:Nat}{y}{Q:Unit->Shared->Prop}(α:bB Z)(h:lX L x v st=some ab)(O:Z.nm x=y)(hl:sc.names.lookup y=some .local)(N:a7 Z G st.nx L cs sc env)(S:SR Z w G st s.heap)(V:VR Z G st.nx s.heap v u)(q:Ku Z w G st s Q ab):aD w A (storeName env y u) Q E s:=aX h λ es J h=>by
 have hp:(env.scope.kind==.class||(env.scope.kind==.module&&env.locals !=env.globals))=false:=by rw[N.kf];rfl
 rw[<-O,storeName_local (N.kx<|O▸hl) hp,N.locals];exact zc (k:=st.nx) (G:=G) α (S.ob L _<|dz J) V λ h' N' B=>xA (S.im (o':=.ns<|dL x v es) (dz J) B λ _=>N') λ S' K=>q.eq h _ ⟨⟨_,_,rfl⟩,S',K⟩
theorem kP{x:Nat}{y}{Q:Unit->Shared->Prop}(h:wU cs x v st=some ab)(J:Z.nm x=y)(hl:sc.names.lookup y=some .cell)(N:a7 Z G st.nx L cs sc env)(S:SR Z w G st s.heap)(V:VR Z G st.nx s.heap v u)(q:Ku Z w G st s Q ab):aD w A (storeName env y u) Q E s:=aX h λ c hc h=>aX h λ S' ho h=>aX h λ hk hu h=>by
 rw[kL hu]at ho;refine xA (N.cells x c hc) λ wb hg=>cI (S.ob c _ ho) λ o ov B zA hd _=>?_;rw[<-J];unfold storeName;simp only[N.kx (J▸hl:sc.names.lookup (Z.nm x)=_),N.kf];refine ah<|wpAny_cellOf hg ?_;unfold cellSet;refine ah<|wpAny_load B ?_;rw[hd];refine wpAny_update B ?_;exact xA (S.im (o':=.cell<|some v) ho (Heap.SameBut.update s.heap (G c) λ o=>{o with data:=.cell<|some u}) λ tk=>⟨{o with data:=.cell<|some u},some u,Heap.get?_update_self _ B rfl,zA,rfl,V.keeps (a9 _) (λ _ _=>rfl) tk⟩) λ O K=>q.eq h _ ⟨⟨_,s.toks,rfl⟩,O,K⟩
theorem kQ{t}{Q:Unit->Shared->Prop}(α:bB Z)(h:U4 L cs t v st=some ab)(hc:yT Z.nm sc t e=true)(N:a7 Z G st.nx L cs sc env)(S:SR Z w G st s.heap)(V:VR Z G st.nx s.heap v u)(q:Ku Z w G st s Q ab):aD w A (assign e env u) Q E s:=by
 cases t with|l x=>exact cy hc λ y p hc=>wpAny_assign_Name (kN α h (cW hc).1 (cW hc).2 N S V q)|b9 x=>exact cy hc λ y p hc=>wpAny_assign_Name (kP h (cW hc).1 (cW hc).2 N S V q)|tup _=>exact nn h|bad=>exact nn h
theorem uT{t}(hc:yT Z.nm sc t e=true):assignEach (e::rest) env=(false,assign e env)::assignEach rest env:=by
 cases t with|l x=>exact cy hc λ _ _ _=>rfl|b9 x=>exact cy hc λ _ _ _=>rfl|tup _=>exact ff hc|bad=>exact ff hc
theorem Ku.lY{Q:Unit->Shared->Prop}(S:SR Z w G st s.heap)(a:cH Z w G st s G ac aq)(q:Ku Z w G st s Q ab):Ku Z w G ac aq Q ab:=λ s' b=>q s'<|a.trans S b
theorem nH{Q:Unit->Shared->Prop}(α:bB Z):∀{ts:List TG}{vs:List AV}{es:List PySem.Expr}{us:List Value}{st:St}{s:Shared},zX L cs ts vs st=some ab->aV (yT Z.nm sc) ts es=true->a7 Z G st.nx L cs sc env->SR Z w G st s.heap->br Z G st.nx s.heap vs us->
  Ku Z w G st s Q ab->aD w A (assignInOrder ((assignEach es env).map (·.2)) us) Q E s
 |[],vs,es,us,st,s,h,hc,N,S,V,q=>by
  cases vs with|cons _ _=>exact nn h|nil=>exact V.vH (uy hc<|wpAny_assignInOrder_none<|q.eq h s<|.refl S)
 |t::ts,vs,es,us,st,s,h,hc,N,S,V,q=>by
  refine xB (M:=λ vs=>br Z G st.nx s.heap vs us->_) h (λ v vs h V=>aX h λ ac h1 h2=>q5 hc λ e es c1 c2=>V.Ah λ u us J O=>?_) V;rw[uT c1];exact wpAny_assignInOrder_more<|kQ α h1 c1 N S J λ aq B=>nH α h2 c2 (N.kp B.kp) B.sr (O.kp S B.kp)<|q.lY S B
theorem rL:∀{ts:List TG}{vs:List AV}{st:St},zX L cs ts vs st=some ab->ts.length=vs.length
 |[],vs,st,h=>by cases vs<;>first|rfl|exact nn h
 |t::ts,vs,st,h=>xB h λ v vs h=>aX h λ ac h1 h2=>congrArg (· +1)<|rL h2
theorem jk:∀{ts:List TG}{es:List PySem.Expr},aV (yT Z.nm sc) ts es=true->(assignEach es env).length=ts.length/\(assignEach es env).findIdx? (·.1)=none
 |[],es,h=>uy h ⟨rfl,rfl⟩|t::ts,es,h=>q5 h λ e es c1 c2=>by
  rw[uT c1];exact xA (jk c2) λ a b=>⟨congrArg (· +1) a,by rw[List.findIdx?_cons,b];rfl⟩
theorem dH{t}{Q:Unit->Shared->Prop}(α:bB Z)(h:jq L cs t v st=some ab)(hc:gV Z.nm sc t e=true)(hh:A.handled=none)(N:a7 Z G st.nx L cs sc env)(S:SR Z w G st s.heap)(V:VR Z G st.nx s.heap v u)(q:Ku Z w G st s Q ab):aD w A (assign e env u) Q E s:=by
 cases t with|l x=>exact kQ (t:=.l x) α h hc N S V q|b9 x=>exact kQ (t:=.b9 x) α h hc N S V q|bad=>exact nn h|tup ts=>
  refine iY hc λ es k p hc=>?_;refine Qm h V λ xs ws a o m h ho kZ hd W=>xA (jk (env:=env) hc) λ a1 a2=>?_;refine wpAny_assign_Tuple (items:=ws.toArray) hh ⟨_,ho,kZ,m,hd⟩ (a1.trans<|(rL h).trans W.1) a2 λ h' B=>xA (S.more (h':=h') λ b o e=>B b o (dI<|dJ e) e) λ J K=>?_;have O:cH Z w G st s G st {s with heap:=h'}:=⟨⟨_,s.toks,rfl⟩,J,K⟩;exact nH (s:={s with heap:=h'}) α h hc N J (W.kp S K)<|q.lY S O
end
variable{fd:FuncData}{ar:List PySem.Arg}{kd:List<|Option PySem.Expr}{df:List PySem.Expr}{vals:List Value}{dv:Value}{al:List<|Str×Value}{n1:List Str}{vs D1 D2:List Value}
section
variable{M:Model}{E:Value->Shared->Prop}{s:Shared}
noncomputable def step(l:List<|Str×Value)(p:Str×Value):List (Str×Value):=if(l.lookup p.1).isNone then l++[p]else l
theorem Bz{D:List Value}(Mc:fd.params=⟨[],ar,none,[],kd,none,df⟩)(Jx:fd.defaults=dv)(O:∀(M:Model)(A:Around)(E:Value->Shared->Prop)(Q:Option (Array Value)->Shared->Prop),(∀r,r.getD #[]=D.toArray->Q r s)->wpAny M A (seqItems? dv) Q E s){cr:List<|Str×Value}(h1:vals.length<=ar.length)(h2:D.length<=ar.length)(h3:(((ar.map (·.arg)).take<|ar.length-D.length).filter λ n=>(((ar.map (·.arg)).zip vals).lookup n).isNone)=[])(h4:(((ar.map (·.arg)).drop<|ar.length-D.length).zip D).foldl step ((ar.map (·.arg)).zip vals)=cr)(h5:((ar.map (·.arg)).filterMap λ n=>(cr.lookup n).map (n,·))=cr):BindsTo s fd ⟨vals,[]⟩ cr:=by
 cases fd;cases Mc;cases Jx;intro M A E Q q;have q2:∀r s',s'=s->r=cr->Q r s':=λ r s' a b=>a▸b▸q;clear q
 delta bindArgs
 refine ah<|ax ?_;refine ah<|O _ _ _ _ λ r hr=>?_;clear O;have J:List.drop ((r.getD #[]).toList.length-(ar.map (·.arg)).length) (r.getD #[]).toList=D:=by
  rw[hr,List.length_map,Nat.sub_eq_zero_of_le h2];rfl
 clear hr;refine xj (λ h=>absurd (ft (fS h).1)<|fe<|List.length_map (as:=ar) (f:=(·.arg))▸h1) ?_;refine xj (λ h=>?_) ?_
 .have:∀X,X=D->(((ar.map (·.arg)).take<|(ar.map (·.arg)).length-X.length).filter λ n=>(((ar.map (·.arg)).zip vals).lookup n).isNone)=[]:=λ X e=>e▸(List.length_map (as:=ar) (f:=(·.arg))).symm▸h3;exact ff ((congrArg (λ l:List Str=> !l.isEmpty)<|this _ J).symm.trans h)
 refine ah (wpAny_forIn_list _ (λ rest slots s'=>s'=s/\rest.foldl step slots=cr) _ ?_ ?_ _ _ ⟨rfl,?_⟩)
 .intro ⟨nm,dv⟩ rest slots s' ⟨B,e⟩;by_cases h:(slots.lookup nm).isNone=true
  .have:rest.foldl step (slots++[(nm,dv)])=cr:=(if_pos h:step slots (nm,dv)=_)▸e;exact WP h (ax ⟨B,this⟩)
  .have:rest.foldl step slots=cr:=(if_neg h:step slots (nm,dv)=_)▸e;exact xj h (ax ⟨B,this⟩)
 .intro slots s' ⟨B,e⟩;cases e;exact ah (ax<|xj (λ h=>nomatch h)<|ax<|q2 _ _ B<|(congrArg (List.filterMap _)<|List.append_nil<|ar.map (·.arg)).trans h5)
 .have:∀X,X=D->(((ar.map (·.arg)).drop<|(ar.map (·.arg)).length-X.length).zip X).foldl step ((ar.map (·.arg)).zip vals)=cr:=λ X e=>e▸(List.length_map (as:=ar) (f:=(·.arg))).symm▸h4;exact this _ J
theorem DI{n}(h:n∈al.map (·.1)):¬(al.lookup n).isNone=true:=λ z=>a8 (eV h) λ p hp e=>
 bne_iff_ne.mp (List.lookup_eq_none_iff.mp (Option.isNone_iff_eq_none.mp z) p hp) e.symm
theorem Ht{n}(h:n∉al.map (·.1)):(al.lookup n).isNone=true:=
 Option.isNone_iff_eq_none.mpr (List.lookup_eq_none_iff.mpr λ p hp=>bne_iff_ne.mpr λ e=>h<|List.mem_map.mpr ⟨p,hp,e.symm⟩)
theorem wi:∀{X:List<|Str×Value},(∀p∈X,p.1∈al.map (·.1))->X.foldl step al=al
 |[],_=>rfl|p::X,h=>(congrArg (X.foldl step)<|if_neg<|DI<|h p m0).trans<|wi λ q B=>h q<|.tail _ B
theorem wj:∀{B al:List<|Str×Value},(al.map (·.1)++B.map (·.1)).Nodup->B.foldl step al=al++B
 |[],al,_=>(List.append_nil al).symm|p::B,al,h=>(congrArg (B.foldl step)<|if_pos<|Ht λ q=>(fg h).2.2 _ q _ m0 rfl).trans<|(wj (by rw[List.map_append,List.append_assoc];exact h)).trans<|List.append_assoc ..
theorem zi{p:Str×Value}:∀{al:List<|Str×Value},(al.map (·.1)).Nodup->p∈al->al.lookup p.1=some p.2
 |[],_,h=>nomatch h|q::al,h,hp=>(bG hp).elim (λ e=>e▸List.lookup_cons_self) λ hp=>by
  rw[List.lookup_cons,beq_eq_false_iff_ne.mpr λ e=>(List.nodup_cons.mp h).1<|List.mem_map.mpr ⟨p,hp,e⟩];exact zi (jG h).2 hp
theorem Jy:∀{l:List<|Str×Value},(∀p∈l,al.lookup p.1=some p.2)->((l.map (·.1)).filterMap λ n=>(al.lookup n).map (n,·))=l
 |[],_=>rfl|p::l,h=>(List.filterMap_cons_some (f:=λ n=>(al.lookup n).map (n,·))<|congrArg (Option.map (p.1,·))<|h p m0).trans<|congrArg (p:: ·)<|Jy λ q B=>h q<|.tail _ B
theorem oL(h:n1.length=vs.length):(n1.zip vs).map (·.1)=n1:=List.map_fst_zip<|cB h
theorem AC(h:n1.length=vs.length){n}(B:n∈n1):n∈(n1.zip vs).map (·.1):=(oL h).symm▸B
theorem La{P:Arguments}(a:P.posonlyargs=[])(b:P.kwonlyargs=[])(c:P.vararg=none)(d:P.kwarg=none):P=⟨[],P.args,none,[],P.kw_defaults,none,P.defaults⟩:=by
 cases P;cases a;cases b;cases c;cases d;rfl
theorem E5{n2:List Str}(Mc:fd.params=⟨[],ar,none,[],kd,none,df⟩)(Jx:fd.defaults=dv)(hD:∀(M:Model)(A:Around)(E:Value->Shared->Prop)(Q:Option (Array Value)->Shared->Prop),(∀r,r.getD #[]=(D1++D2).toArray->Q r s)->wpAny M A (seqItems? dv) Q E s)(J:ar.map (·.arg)=n1++n2)(nd:(n1++n2).Nodup)(B:n1.length=vals.length)(O:n2.length=D2.length)(l3:D1.length<=n1.length):BindsTo s fd ⟨vals,[]⟩ ((n1++n2).zip<|vals++D2):=by
 have z1:(n1++n2).zip vals=n1.zip vals:=by have:=List.zip_append (r₁:=n2) (r₂:=[]) B;rw[List.append_nil,List.zip_nil_right,List.append_nil]at this;exact this
 have z2:(n1++n2).zip (vals++D2)=n1.zip vals++n2.zip D2:=List.zip_append B;have al:ar.length=n1.length+n2.length:=by rw[<-List.length_map (f:=(·.arg)),J,List.length_append]
 have dl:(D1++D2).length=D1.length+n2.length:=by rw[List.length_append,O]
 have ha:ar.length-(D1++D2).length=n1.length-D1.length:=by rw[al,dl,Nat.add_sub_add_right]
 have le:n1.length-D1.length<=n1.length:=Nat.sub_le ..;have kn:(n1.zip vals).map (·.1)++(n2.zip D2).map (·.1)=n1++n2:=by rw[oL B,oL O]
 refine Bz Mc Jx hD (by rw[al,B];exact bL ..) (by rw[al,dl];exact Nat.add_le_add_right l3 _) ?_ ?_ ?_
 .rw[J,ha,z1,List.take_append_of_le_length le];exact List.filter_eq_nil_iff.mpr λ n hn=>DI (AC B<|List.mem_of_mem_take hn)
 .rw[J,ha,z1,z2,List.drop_append_of_le_length le,List.zip_append (by rw[List.length_drop,Nat.sub_sub_self l3]),List.foldl_append,wi (al:=n1.zip vals) (X:=(n1.drop<|n1.length-D1.length).zip D1) λ p hp=>AC B<|List.mem_of_mem_drop (List.of_mem_zip (a:=p.1) (b:=p.2) hp).1];exact wj (kn▸nd)
 .have e:((n1.zip vals++n2.zip D2).map (·.1))=n1++n2:=(List.map_append ..).trans kn;rw[J,z2,<-e];exact Jy λ p hp=>zi (e▸nd) hp
theorem yC{D:List Value}{ns:List Str}(hp:fd.params.posonlyargs=[])(hk:fd.params.kwonlyargs=[])(hv:fd.params.vararg=none)(hw:fd.params.kwarg=none)(J:fd.params.args.map (·.arg)=ns)(hn:ns.Nodup)(O:∀(M:Model)(A:Around)(E:Value->Shared->Prop)(Q:Option (Array Value)->Shared->Prop),(∀r,r.getD #[]=D.toArray->Q r s)->wpAny M A (seqItems? fd.defaults) Q E s)(hl:vals.length<=ns.length)(hd:ns.length<=vals.length+D.length)(B:D.length<=ns.length):BindsTo s fd ⟨vals,[]⟩ (ns.zip<|vals++D.drop (D.length-(ns.length-vals.length))):=by
 have e:=List.take_append_drop vals.length ns;have d:=List.take_append_drop (D.length-(ns.length-vals.length)) D;have x:ns.length-vals.length<=D.length:=Nat.sub_le_of_le_add<|Nat.add_comm .. ▸hd;have:=E5 (n1:=ns.take vals.length) (n2:=ns.drop vals.length) (vals:=vals) (D1:=D.take<|D.length-(ns.length-vals.length)) (D2:=D.drop<|D.length-(ns.length-vals.length)) (La hp hk hv hw) rfl (d.symm▸O) (J.trans e.symm) (e.symm▸hn) (List.length_take_of_le hl)
  (by rw[List.length_drop,List.length_drop,Nat.sub_sub_self x]) (ae (List.length_take_le ..) (by rw[List.length_take_of_le hl];exact Nat.sub_le_of_le_add (by rw[Nat.add_sub_cancel' hl];exact B)))
 rw[e]at this;exact this
end
def FnAt(Z:Sy)(X:Env)(gk:Str->AV->GK)(an:Nat->Bool)(G:Nat->Addr)(n:Nat)(h:Heap)(a:Addr)(fa:Nat)(cs:Cs):Prop:=
 ∃o fd f b D r,h.get? a=some o/\o.data=.func fd/\X.fn.get fa=some f/\fd.body=.stmts b/\Iq Z.nm gk an 60 f fd b=true/\h.CodeRec fd.code fd.qualname/\
  (∀M,Looks M h (seqItems? fd.defaults) r)/\r.getD #[]=List.toArray D/\br Z G n h f.dv D/\∀x c,lk x cs=some c->c<n/\fd.closure.lookup (Z.nm x)=some (G c)
inductive FZ(Z:Sy)(G:Nat->Addr)(n:Nat)(h:Heap):Fl->Flow->Prop
 |d6:FZ Z G n h .d6 .next
 |cont:FZ Z G n h .cont .cont
 |ret {v:AV} {u:Value}:VR Z G n h v u->FZ Z G n h (.ret v) (.ret u)
def Kf(Z:Sy)(w:World)(G:Nat->Addr)(st:St)(s:Shared)(Q:Flow->Shared->Prop)(J:Fl)(ab:St):Prop:=∀ay B s',cH Z w G st s ay ab s'->FZ Z ay ab.nx s'.heap J B->Q B s'
variable{fl lM:Fl}
theorem Kf.eq{Z}{w}{G:Nat->Addr}{s}{Q:Flow->Shared->Prop}(q:Kf Z w G st s Q fl ab)(h:some (lM,ac)=some (fl,ab)):Kf Z w G st s Q lM ac:=(sP h).1.symm▸(sP h).2.symm▸q
theorem Kf.lY{Z}{w}{G:Nat->Addr}{s:Shared}{Q:Flow->Shared->Prop}(S:SR Z w G st s.heap)(a:cH Z w G st s az ac aq)(q:Kf Z w G st s Q fl ab):Kf Z w az ac aq Q fl ab:=λ ay v' s' b V=>q ay v' s' (a.trans S b) V
section
variable(Z:Sy)(w:World)(X:Env)(gk:Str->AV->GK)(an:Nat->Bool)(n:Nat)
def IQ(f:Nat->List AV->Cs->St->Option (AV×St)):Prop:=
 ∀{fa as cs st v ab},f fa as cs st=some (v,ab)->∀{A G s a us},bt n A->FnAt Z X gk an G st.nx s.heap a fa cs->br Z G st.nx s.heap as us->SR Z w G st s.heap->
  ∀{R:Result->Shared->Prop},Kt Z w G st s (λ v' s'=>R (.ok<|.ret v') s') v ab->codeAny (model pw w) A (.call (.ref a) ⟨us,[]⟩) R s
def BM(f:Nat->Cs->List IS->St->Option (Fl×St)):Prop:=
 ∀{L cs is st fl ab},f L cs is st=some (fl,ab)->∀{m sc body},aV (dn Z.nm gk an m sc) is body=true->∀{A env G s},bt n A->a7 Z G st.nx L cs sc env->SR Z w G st s.heap->
  ∀{Q:Flow->Shared->Prop}{E:Value->Shared->Prop},Kf Z w G st s Q fl ab->aD w A (execs body env) Q E s
end
variable{cells:List<|Str×Addr}{cs':Cs}
section
variable{Z:Sy}{X:Env}{w:World}{gk:Str->AV->GK}{an:Nat->Bool}{n m:Nat}{ih:Ih}{L:Nat}{cs:Cs}{G:Nat->Addr}{s:Shared}{E:Value->Shared->Prop}
theorem cH.push(S:SR Z w G st s.heap)(o:Obj)(ao:AO)(H:∀ay,(∀i,i<st.nx->ay i=G i)->OR Z w ay (st.nx+1) (s.heap.push o) s.heap.objs.size ao):
  ∃ay,ay st.nx=s.heap.objs.size/\cH Z w G st s ay (a_ ao st) {s with heap:=s.heap.push o}:=by
 refine du (S.a_ (a:=s.heap.objs.size) (o:=ao) (h':=s.heap.push o) (ef _) (cm S.ready) (bP _ o)<|λ ay same=>H ay same) λ ay e same B K=>?_;exact⟨ay,e,⟨⟨_,s.toks,rfl⟩,B,K⟩⟩
theorem rN.empty{n:Nat}{h:Heap}{a:Addr}{o:Obj}(J:h.get? a=some o)(hd:o.data=.dict #[] 0):rN Z G n h [] a:=
 ⟨o, #[],0,J,hd,(λ e B=>by simp at B),a9 _,λ k=>rfl⟩
def Kc(Z:Sy)(G:Nat->Addr)(n:Nat)(cs:Cs)(cells:List<|Str×Addr):Prop:=∀x c,lk x cs=some c->c<n/\cells.lookup (Z.nm x)=some (G c)
theorem Kc.kp{h}(C:Kc Z G st.nx cs cells)(K:Kp G st h ay ab h'):Kc Z ay ab.nx cs cells:=λ x c e=>by
 refine xA (C x c e) λ a b=>?_;exact⟨ba a K.nx,by rw[b,K.same c a]⟩
theorem iQ(k x:Nat)(v:I)(l:List<|Nat×I):lk k ((x,v)::l)=if x=k then some v else lk k l:=by
 show Bool.rec (motive:=λ _=>Option I) (lk k l) (some v) (Nat.beq x k)=_;rw[TR.i8];by_cases h:x=k<;>simp[h]
theorem gw(α:bB Z){M}(f:(Str×NameKind)->List (Str×Addr)->Sem (ForInStep<|List<|Str×Addr))(hf:∀name kind cells,f (name,kind) cells=if kind==.cell then(do let a<-alloc {cls:=.type "cell",data:=.cell none};pure (.yield ((name,a)::cells)))else pure (.yield cells)):
  ∀(names:List<|Str×NameKind)(xs:List Nat)(cs:Cs)(st:St)(s:Shared)(G:Nat->Addr)(cells:List<|Str×Addr)(Q:List (Str×Addr)->Shared->Prop),fw xs st cs=(cs',ab)->
   aV (λ i(p:Str×NameKind)=>Z.nm i==p.1) xs (names.filter (·.2==.cell))=true->SR Z w G st s.heap->Kc Z G st.nx cs cells->
   (∀ay O s',cH Z w G st s ay ab s'->Kc Z ay ab.nx cs' O->Q O s')->wpAny M A (forIn names cells f) Q E s
 |[],xs,cs,st,s,G,cells,Q,hm,hb,S,C,q=>by
  have:xs=[]:=by
   cases xs with|nil=>rfl|cons a l=>exact ff hb
  subst this;cases hm;rw[List.forIn_nil];exact ax (q G cells s (.refl S) C)
 |(name,kind)::names,xs,cs,st,s,G,cells,Q,hm,hb,S,C,q=>by
  rw[List.forIn_cons,hf];by_cases B:(kind==NameKind.cell)=true
  .rw[if_pos B];rw[List.filter_cons,if_pos B]at hb;cases xs with|nil=>exact ff hb|cons x xs=>
    refine xA (fS hb) λ hx hb=>?_;have hx:=beq_iff_eq.mp hx;refine a8 (cH.push (s:=s) S {cls:=.type "cell",data:=.cell none} (.cell none) λ ay _=>⟨_,none,Heap.get?_push_size _ rfl,rfl,rfl,trivial⟩) λ az e1 ak=>?_;refine ah<|ah<|wpAny_alloc<|ax ?_;refine gw α f hf names xs ((x,st.nx)::cs) _ _ az ((name,s.heap.objs.size)::cells) Q hm hb ak.sr (λ y c e=>?_) λ ay O s' aK C'=>q ay O s' (ak.trans S aK) C';rw[iQ]at e;by_cases J:x=y
    .rw[if_pos J]at e;obtain rfl:=sI e;refine⟨bZ _,?_⟩;subst J;have hx:Z.nm x=name:=hx;rw[List.lookup_cons,hx,beq_self_eq_true,e1]
    .rw[if_neg J]at e;refine xA ((C.kp ak.kp) y c e) λ b1 b2=>?_;refine⟨b1,?_⟩;have:(Z.nm y==name)=false:=beq_eq_false_iff_ne.mpr λ z=>J<|α _ _<|hx.trans z.symm;rw[List.lookup_cons,this];exact b2
  .rw[if_neg B];rw[List.filter_cons,if_neg B]at hb;exact ah<|ax<|gw α f hf names xs cs st s G cells Q hm hb S C q
theorem lV(α:bB Z){xs:List Nat}(f:Str×Value->PUnit->Sem (ForInStep PUnit))(hf:∀n v u,f (n,v) u=(do storeName env n v;pure (.yield ⟨⟩))):
  ∀(bs:List<|Nat×AV)(binds:List<|Str×Value)(st:St)(s:Shared)(Q:PUnit->Shared->Prop),cL L xs cs bs st=some ab->
   F2 (λ p q=>Z.nm p.1=q.1/\VR Z G st.nx s.heap p.2 q.2/\(match xs.any (Nat.beq p.1)with|true=>sc.names.lookup q.1=some .cell|false=>sc.names.lookup q.1=some .local)) bs binds->
   a7 Z G st.nx L cs sc env->SR Z w G st s.heap->Ku Z w G st s Q ab->aD w A (forIn binds ⟨⟩ f) Q E s
 |[],binds,st,s,Q,h,F,N,S,q=>by
  cases F;rw[List.forIn_nil];exact ax (q.eq h s<|.refl S)
 |p::bs,binds,st,s,Q,h,F,N,S,q=>by
  cases F with|@cons _ b _ k a F'=>
  refine ib a λ h1 h2 J=>?_;rw[List.forIn_cons,hf];have go:∀{ac:St}{aq:Shared},cL L xs cs bs ac=some ab->cH Z w G st s G ac aq->wpAny _ A (forIn k PUnit.unit f) Q E aq:=λ h B=>lV α f hf bs k _ _ Q h (F'.mono λ _ _ z=>⟨z.1,z.2.1.kp S B.kp,z.2.2⟩) (N.kp B.kp) B.sr<|q.lY S B;unfold cL at h;cases hc:xs.any (Nat.beq p.1)with
  |true=>
   rw[hc]at h J;exact aX h λ ac O h=>ah (ah<|kP O h1 J N S h2 λ aq B=>ax<|go h B)
  |false=>
   rw[hc]at h J;exact aX h λ ac O h=>ah<|ah<|kN α O h1 J N S h2 λ aq B=>ax<|go h B
end
theorem xU(P:Params):(hx P).nsMap 2 "sys.recursionlimit" =none:=by kernel_rfl
variable{st2 uZ:St}{bs:List<|Nat×AV}{binds:List<|Str×Value}{closure:List<|Str×Addr}{func:Option Addr}{ps:List Nat}{as:List AV}{r0:Option<|Array Value}
section
variable{Z:Sy}{X:Env}{w:World}{gk:Str->AV->GK}{an:Nat->Bool}{n m:Nat}{ih:Ih}{L:Nat}{cs:Cs}{G:Nat->Addr}{s:Shared}{E:Value->Shared->Prop}
theorem Bm(α:bB Z){xs:List Nat}{qual}{code}{Q:PySem.Env->Shared->Prop}(hm:fw xs (a_ (.ns []) st) cs=(cs',st2))(hb:cL st.nx xs cs' bs st2=some uZ)(hc:aV (λ i(p:Str×NameKind)=>Z.nm i==p.1) xs (sc.names.filter (·.2==.cell))=true)(F:F2 (λ p q=>Z.nm p.1=q.1/\VR Z G st.nx s.heap p.2 q.2/\(match xs.any (Nat.beq p.1)with|true=>sc.names.lookup q.1=some .cell|false=>sc.names.lookup q.1=some .local)) bs binds)(C:Kc Z G st.nx cs closure)(ok:y0 sc=true)(S:SR Z w G st s.heap)(q:∀ay env s',cH Z w G st s ay uZ s'->a7 Z ay uZ.nx st.nx cs' sc env->env.code=code->Q env s'):
  aD w A (newFunctionEnv sc 3 closure binds qual func code none 0) Q E s:=by
 simp only[newFunctionEnv,Option.isSome_none,Bool.false_eq_true,if_false];refine ah<|wpAny_alloc ?_;refine a8 (cH.push (s:=s) S {cls:=.type "frame",data:=.dict #[]} (.ns []) λ ay _=>rN.empty (Z:=Z) (G:=ay) (n:=st.nx+1) (Heap.get?_push_size _ rfl) rfl) λ az e1 J=>?_;refine ah<|gw α _ (λ name kind cells=>by cases aK:kind==NameKind.cell<;>rfl) sc.names xs cs _ _ az closure _ hm hc J.sr (C.kp J.kp) λ aa cells ci B O=>?_;have lt:st.nx<st2.nx:=ba (bZ _) B.kp.nx;have N:a7 Z aa st2.nx st.nx cs' sc {scope:=sc,locals:=s.heap.objs.size,globals:=3,cells:=cells,qual:=qual,func:=func,code:=code,frame:=some s.heap.objs.size,builtins:=0}:=
  ⟨rfl,ok,((B.kp.same _<|bZ _).trans e1).symm,lt,rfl,rfl,O⟩
 have hO:=J.trans S B;refine ah<|lV α _ (λ _ _ _=>rfl) bs binds st2 ci _ hb (F.mono λ _ _ z=>⟨z.1,z.2.1.kp S hO.kp,z.2.2⟩) N B.sr λ bM cM=>ax ?_;exact q aa _ bM (hO.trans S cM) (N.kp cM.kp) rfl
theorem vk{h:Heap}(r:Ready w h):h.NoLimit:=by
 have h2:=r.at2;have B:h.isNs 2=true:=(dU h2).trans<|Jl _;exact⟨_,.of_isNs B,(congrFun (d7 h2) _).trans<|xU _⟩
theorem q3:∀{ks:List Nat}{vs:List AV}{bs:List<|Nat×AV},FM ks vs=some bs->bs=ks.zip vs/\ks.length=vs.length
 |[],[],bs,h=>gH h ⟨rfl,rfl⟩|[],_::_,bs,h=>nn h|k::ks,vs,bs,h=>xB h λ v vs h=>aX h λ l e h=>gH h<|xA (q3 e) λ a b=>⟨congrArg (List.cons _) a,congrArg (· +1) b⟩
theorem u8{x:Nat}{l:List Nat}:l.any (Nat.beq x)=decide (x∈l):=by
 induction l with|nil=>rfl|cons a l ih=>
  rw[List.any_cons,ih,TR.i8];by_cases h:x=a
  .simp
  .simp
theorem dm:∀{l:List Nat},jj l=true->l.Nodup
 |[],_=>.nil|a::l,h=>by
  unfold jj at h;rw[u8]at h;simp only[Bool.and_eq_true,Bool.not_eq_true',decide_eq_false_iff_not]at h;exact List.nodup_cons.mpr ⟨h.1,dm h.2⟩
theorem Ar{as:List Arg}(h:aV (λ i(a:Arg)=>Z.nm i==a.arg) ps as=true):as.map (·.arg)=ps.map Z.nm:=by
 induction ps generalizing as with|nil=>exact uy h rfl|cons p ps ih=>exact q5 h λ a as c1 c2=>by rw[List.map_cons,List.map_cons,ih c2,bq c1]
theorem jB(α:bB Z):∀{ps:List Nat},ps.Nodup->(ps.map Z.nm).Nodup
 |[],_=>.nil|p::ps,h=>by
  rw[List.nodup_cons]at h;rw[List.map_cons,List.nodup_cons];refine⟨λ hm=>?_,jB α h.2⟩;refine a8 (eV hm) λ q B e=>?_;exact h.1<|α _ _ e▸B
theorem wQ{xs:List Nat}{h}{k:Nat}(hp:∀x:Nat,x∈ps->(match xs.any (Nat.beq x)with|true=>sc.names.lookup (Z.nm x)=some .cell|false=>sc.names.lookup (Z.nm x)=some .local)):
  ∀{qs:List Nat}{vs:List AV}{us:List Value},(∀x∈qs,x∈ps)->qs.length=vs.length->br Z G k h vs us->
   F2 (λ p q=>Z.nm p.1=q.1/\VR Z G k h p.2 q.2/\(match xs.any (Nat.beq p.1)with|true=>sc.names.lookup q.1=some .cell|false=>sc.names.lookup q.1=some .local)) (qs.zip vs) ((qs.map Z.nm).zip us)
 |[],vs,us,_,_,_=>by simpa using F2.nil|q::qs,[],us,_,hl,_=>by simp at hl
 |q::qs,v::vs,us,hm,hl,V=>by
  refine a5 V.gf λ u us O B J=>?_;subst O;exact .cons ⟨rfl,B,hp q<|hm q<|.head _⟩<|wQ hp (λ x hx=>hm x<|.tail _ hx) (by simpa using hl) J
def Ip(N:Nat->Str)(f:Fn)(fd:FuncData):Bool:=
 y0 fd.scope&&fd.params.posonlyargs.isEmpty&&fd.params.kwonlyargs.isEmpty&&fd.params.vararg.isNone&&fd.params.kwarg.isNone&&aV (λ i(a:Arg)=>N i==a.arg) f.ps fd.params.args&&jj f.ps&&jj f.cells&&
  Qh N f fd.scope&&aV (λ i(p:Str×NameKind)=>N i==p.1) f.cells (fd.scope.names.filter (·.2==.cell))&&Nat.beq fd.globals 3&&Nat.beq fd.builtins 0&&Nat.ble (len f.dv) (len f.ps)
theorem EZ(α:bB Z){f:Fn}{b}{o:Obj}{a:Addr}{D}(Wu:FM f.ps (fill f.ps f.dv as)=some bs)(hm:fw f.cells (a_ (.ns []) st) cs=(cs',st2))(hb:cL st.nx f.cells cs' bs st2=some uZ)(ho:s.heap.get? a=some o)(hd:o.data=.func fd)(Ef:fd.body=.stmts b)(J:Ip Z.nm f fd=true)(qa:s.heap.CodeRec fd.code fd.qualname)(Mi:∀M,Looks M s.heap (seqItems? fd.defaults) r0)(hD:r0.getD #[]=List.toArray D)(Jx:br Z G st.nx s.heap f.dv D)(Ba:∀x c,lk x cs=some c->c<st.nx/\fd.closure.lookup (Z.nm x)=some (G c))(r:bt (n+1) A)(V:br Z G st.nx s.heap as us)(S:SR Z w G st s.heap){R:Result->Shared->Prop}(go:∀ay env s',cH Z w G st s ay uZ s'->a7 Z ay uZ.nx st.nx cs' fd.scope env->env.code=fd.code->bt n (A.deeper env)->∀E:Value->Shared->Prop,wpAny (model pw w) (A.deeper env) (execs b env) (λ f s'=>R (.ok<|.ret (match f with|.ret v=>v|_=>.none)) s') E s'):codeAny (model pw w) A (.call (.ref a) ⟨us,[]⟩) R s:=by
 unfold Ip at J;simp only[Bool.and_eq_true,List.isEmpty_iff,Option.isNone_iff_eq_none]at J;refine xA J λ z0 O=>?_;obtain⟨⟨⟨⟨⟨⟨⟨⟨⟨⟨⟨k1,k2⟩,k3⟩,k4⟩,k5⟩,k6⟩,k7⟩,k8⟩,k9⟩,RK⟩,Ec⟩,Ee⟩:=z0;refine eG (gq k1) λ o1 o2 o3 o4 o5=>?_;refine xA (q3 Wu) λ hz hlen=>?_;clear Wu;subst hz;have O:=dY O;rw[db,db]at O;have ZI:=Jx.1;have eZ:=V.1;have B:fill f.ps f.dv as=as++f.dv.drop (f.dv.length-(f.ps.length-as.length)):=by
  unfold fill;rw[hG,EO,db,db,db]
 rw[B]at hlen;have Y_:f.ps.length=as.length+(f.dv.length-(f.dv.length-(f.ps.length-as.length))):=by simpa using hlen
 have BS:fd.params.args.map (·.arg)=f.ps.map Z.nm:=Ar k6;have g3:fd.globals=3:=bC Ec;have b0:fd.builtins=0:=bC Ee;have rd:A.depth<recursionLimit:=by have:=r.depth;show A.depth<1000;lia
 refine codeAny_call_function rd ho hd o2 o3 Ef qa ?_;refine yC (D:=D) (ns:=f.ps.map Z.nm) k2 k3 k4 k5 BS (jB α<|dm k7) (λ M A E Q hQ=>(Mi M).here<|hQ _ hD) (by simp;lia) (by simp;lia) (by simp;lia) _ _ _ _ ?_;rw[g3,b0];have R7:∀x,x∈f.ps->(match f.cells.any (Nat.beq x)with|true=>fd.scope.names.lookup (Z.nm x)=some .cell|false=>fd.scope.names.lookup (Z.nm x)=some .local):=λ x hx=>by
  have:=bV k9 x hx;split at this<;>rename_i z<;>first|(rw[z];exact beq_iff_eq.mp this)|exact beq_iff_eq.mp this|(simp only[z];exact beq_iff_eq.mp this)
 have VV:br Z G st.nx s.heap (fill f.ps f.dv as) (us++D.drop (D.length-((f.ps.map Z.nm).length-us.length))):=by
  rw[B,List.length_map,<-eZ,<-ZI];exact V.app (Jx.drop _)
 refine Bm α hm hb RK (wQ R7 (λ x hx=>hx) (by rw[B];exact hlen) VV) Ba k1 S λ ay env s' ak N hc=>⟨vk ak.sr.ready,codeAny_func ?_⟩;refine go ay env s' ak N hc ⟨r.handled,by have:=r.depth;show A.depth+1+2*n<=900;lia,by have:=r.units;show A.units+3+20*n<=9000;lia⟩ _
theorem NC(α:bB Z)(hS:BM Z w gk an n ih.S):IQ Z w X gk an (n+1) (Ct X ih):=by
 intro fa as cs st v ab h A G s a us r F V S R q;refine a8 (cY h) ?_;clear h;intro f hf h;refine a8 (cY h) ?_;clear h;intro bs Wu h;obtain⟨⟨cs',st2⟩,hm⟩:∃p,fw f.cells (a_ (.ns []) st) cs=p:=⟨_,rfl⟩;rw[hm]at h;dsimp only at h;refine a8 (cY h) ?_;clear h;intro uZ hb h;refine b8 (E4 h) ?_;clear h;intro fl ak hs h;refine j_ F λ o fd fy=>cZ fy λ f' b D r0 ho hd Wq Ef B9=>eG B9 λ Ee qa Mi hD OX=>xA OX λ Jx Ba=>?_;rw[hf]at Wq;obtain rfl:=sI Wq;refine xA (fS (show(Ip Z.nm f fd&&aV (dn Z.nm gk an 60 fd.scope) f.body b)=true from Ee)) λ hH O=>?_;refine EZ α Wu hm hb ho hd Ef hH qa Mi hD Jx Ba r V S λ ay env s' B N _ r' E=>?_;refine hS hs O r' N B.sr λ aa uG ci aK FR=>?_
 induction FR with|d6=>refine xA (sP h) λ z0 J=>?_;clear h;subst z0;subst J;exact q aa _ ci (B.trans S aK) .none|cont=>exact nn h|ret V'=>refine xA (sP h) λ z0 J=>?_;clear h;subst z0;subst J;exact q aa _ ci (B.trans S aK) V'
end
structure Calls(Z:Sy)(w:World)(X:Env)(gk:Str->AV->GK)(an:Nat->Bool):Prop where
 fn:∀fa f,X.fn.get fa=some f->Nat.blt fa 1358=true->∀h,Ready w h->∀G n,FnAt Z X gk an G n h fa fa []
 cl:∀C cl,X.cl.get C=some cl->Z.ic C=true/\makesIn (KF w.params) C=true/\keepIn (KF w.params) (.ref C)=true/\
  specialIn (KF w.params) (.ref C) "__getattribute__" =some (some<|.builtin "type.__getattribute__")/\readsIn (KF w.params) C (.type "type")=true
 ga:∀C,Z.ic C=true->findIn (KF w.params) (.ref C) "__getattr__" =some none
 init:∀C cl fa,X.cl.get C=some cl->cl.init=some fa->Nat.blt fa 1358=true/\findIn (KF w.params) (.ref C) "__init__" =some (some<|.ref fa)/\typeIn (KF w.params) (.ref fa)=some (.type "function")
 Ly:∀C cl x fa,X.cl.get C=some cl->lk x cl.meths=some fa->Nat.blt fa 1358=true/\findIn (KF w.params) (.ref C) (Z.nm x)=some (some<|.ref fa)/\typeIn (KF w.params) (.ref fa)=some (.type "function")/\
  findCls (KF w.params) (.ref C) (.type "type") (Z.nm x)=some (.val<|.ref fa)
def Oe(Z:Sy)(w:World)(X:Env):Prop:=
 ∀{k as st v ab},mi X k as st=some (v,ab)->∀{A G s us},A.handled=none->A.units<=9300->br Z G st.nx s.heap as us->SR Z w G st s.heap->
  ∀{Q E:Value->Shared->Prop},Kt Z w G st s Q v ab->aD w A (call (.builtin<|Z.bn k) us) Q E s
def NV(Z:Sy)(w:World):Prop:=
 ∀{k as st v ab},rz k as st=some (v,ab)->∀{A G s us},A.handled=none->A.units<=9300->br Z G st.nx s.heap as us->SR Z w G st s.heap->
  ∀{Q E:Value->Shared->Prop},Kt Z w G st s Q v ab->aD w A (call (.type<|Z.tn k) us) Q E s
def ma(X:Env)(f:Nat->List AV->Cs->St->Option (AV×St)):Prop:=∀{fa as cs st r},f fa as cs st=some r->∃g,X.fn.get fa=some g
variable{fa:Nat}{args:List<|Bool×Sem Value}{first:List Value}
section
variable{Z:Sy}{X:Env}{w:World}{gk:Str->AV->GK}{an:Nat->Bool}{n m:Nat}{ih:Ih}{L:Nat}{cs:Cs}{G:Nat->Addr}{s:Shared}{E:Value->Shared->Prop}
theorem yt:ma X (Ct X ih):=by
 intro fa as cs st r h;refine aX h λ f B _=>?_;exact⟨f,B⟩
theorem tG{h}{a:Nat}(F:FnAt Z X gk an G n h a fa cs):∀M:Model,∃k,(k=Keeper.frame\/k=Keeper.machine\/k=Keeper.boundFrame)/\Looks M h (keeperOf<|.ref a) k:=by
 refine j_ F λ o fd B=>fU B λ f b D r ho hd _=>?_;refineλ M=>⟨.frame,.inl rfl,?_⟩;unfold keeperOf;refine(Looks.ld (part:=none) ho).andThen ?_;rw[hd];exact .now
theorem eg(pos:Pos):∀l:List<|Bool×Sem Value,(backTo pos l).any (·.1)=l.any (·.1)
 |[]=>rfl|(b,t)::l=>by
  show(b||(backTo pos l).any (·.1))=(b||l.any (·.1));rw[eg pos l]
theorem gh{k:Nat}:∀{B:List IE}{es:List PySem.Expr},aV (aE Z.nm gk an k sc) B es=true->(starEach es env).any (·.1)=false
 |[],es,h=>uy h rfl|a::B,es,h=>q5 h λ b l c1 c2=>by rw[qw c1,List.any_cons,gh c2];rfl
theorem tZ{M}{f}{Q:Args->Shared->Prop}(B:args.any (·.1)=false)(h:wpAny M A (spliced args) (λ vs s'=>Q ⟨vs,[]⟩ s') E s):wpAny M A (evalArgs f true args []) Q E s:=by
 cases args with|nil=>intro O p J;exact evalArgs_nil3 (h O p J) O p J|cons x l=>
  obtain⟨b,t⟩:=x;rw[List.any_cons,Bool.or_eq_false_iff]at B;obtain rfl:b=false:=B.1;exact evalArgs_plain h
theorem eP{M}{f}(B:args.any (·.1)=false)(h:wpAny M A (spliced args) (λ vs aq=>(∀M:Model,∃k,(k=Keeper.frame\/k=Keeper.machine\/k=Keeper.boundFrame)/\Looks M aq.heap (keeperOf f) k)/\wpAny M A (call f<|first++vs) Q E aq) E s):wpAny M A (callWith pos f first args []) Q E s:=by
 refine callWith_of (P:=λ h=>∀M:Model,∃k,(k=Keeper.frame\/k=Keeper.machine\/k=Keeper.boundFrame)/\Looks M h (keeperOf f) k) (by rw[B];rfl) (λ h hp=>hp M)<|tZ B h
theorem bt.under(r:bt (n+1) A)(C:Addr)(us:List Value):bt n (A.under<|.builtin "type.__call__" ⟨.ref C::us,[]⟩):=by
 refine⟨r.handled,?_,?_⟩
 .have e:(A.under<|.builtin "type.__call__" ⟨.ref C::us,[]⟩).depth=A.depth+1:=rfl;have:=r.depth;rw[e];lia
 .have e:(A.under<|.builtin "type.__call__" ⟨.ref C::us,[]⟩).units=A.units+1:=rfl;have:=r.units;rw[e];lia
theorem xm{a:Nat}{cl}(C:Calls Z w X gk an)(hC:IQ Z w X gk an n ih.C)(hF:ma X ih.C)(hc:X.cl.get a=some cl)(h:Kn ih a cl as st=some (v,ab))(r:bt (n+1) A)(V:br Z G st.nx s.heap as us)(S:SR Z w G st s.heap)(q:Kt Z w G st s Q v ab):aD w A (call (.ref a) us) Q E s:=by
 refine aX h λ fa hi h=>dR h λ u ac e1 h=>iI (C.cl a cl hc) λ c1 c2 c3 _=>ib (C.init a cl fa hc hi) λ i1 i2 i3=>?_;have X0:=mL S.ready;obtain⟨hh,g,d,t,os⟩:=s;refine wpAny_call<|make_core (makes_of X0 c2) (looks_findIn X0 i2) (λ self=>bind_fn X0 self i3) (.inl rfl) ?_;refine a8 (cH.push (s:=⟨hh,g,d,t,os⟩) S emptyDict (.ns []) λ ay _=>rN.empty (Z:=Z) (G:=ay) (n:=st.nx+1) (Heap.get?_push_size _ rfl) rfl) λ az p1 O=>?_;refine a8 (cH.push (s:=⟨hh.push emptyDict,g,d,t,os⟩) O.sr (instObj a hh.objs.size) (.inst a st.nx) λ ay same=>⟨fh<|bZ _,((same _<|bZ _).trans p1).symm▸Heap.get?_push_size _ rfl,c1⟩) λ aa p2 aK=>?_;have B:cH Z w G st ⟨hh,g,d,t,os⟩ aa (G' a st) ⟨(hh.push emptyDict).push<|instObj a hh.objs.size,g,d,t,os⟩:=O.trans S aK;have J:aa (Nat.succ st.nx)=hh.objs.size+1:=p2.trans<|Heap.size_push ..;have me:VR Z aa (G' a st).nx ((hh.push emptyDict).push<|instObj a hh.objs.size) (.r<|Nat.succ st.nx) (.ref<|hh.objs.size+1):=J▸.r _ (bZ _);exact xE (hF e1) λ f hf=>hC e1 (r.under _ _) (C.fn fa f hf i1 _ B.sr.ready aa _) (.cons me<|V.kp S B.kp) B.sr λ e_ v' bM cM V'=>GS h V' λ h=>⟨rfl,q.eq h e_ (.ref<|hh.objs.size+1) bM (B.trans S cM)<|me.kp B.sr cM.kp⟩
end
structure kV(Z:Sy)(X:Env)(gk:Str->AV->GK)(an:Nat->Bool):Prop where
 ch:∀f k fd,Z.ch f k fd->∃g b vs t,X.fn.get f=some g/\fd.body=.stmts b/\Iq Z.nm gk an 60 g fd b=true/\fd.defaults=.none/\g.dv=[]/\(Z.ca k).data=.fields vs/\vs[1]?=some (.str fd.qualname t)
def BP(Z:Sy)(w:World)(id:String)(tk:List AV->St->Option (AV×St))(o:AV):Prop:=
 ∀{as st v ab},tk as st=some (v,ab)->∀{A G s us ov},A.handled=none->A.units<=9300->VR Z G st.nx s.heap o ov->br Z G st.nx s.heap as us->SR Z w G st s.heap->
  ∀{Q E:Value->Shared->Prop},Kt Z w G st s Q v ab->aD w A (call (.builtin id) (ov::us)) Q E s
structure Aa(Z:Sy)(w:World)(X:Env):Prop where
 append:∀j,BP Z w "list.append" (Ha j 100) (.r j)
 extend:∀j,BP Z w "list.extend" (Ha j 101) (.r j)
 pop:∀j,BP Z w "list.pop" (Ha j 102) (.r j)
 aa9:∀j,BP Z w "dict.pop" (OC X j 102) (.r j)
 ZZ:∀j,BP Z w "dict.get" (Rb X j 103) (.g j)
 rfind:∀k,BP Z w "str.rfind" (V7 X k 104) (.s k)
 Yd:∀x,X.bn x=100->Z.nm x="append"
 Yc:∀x,X.bn x=101->Z.nm x="extend"
 QW:∀x,X.bn x=102->Z.nm x="pop"
 Yb:∀x,X.bn x=103->Z.nm x="get"
 Ya:∀x,X.bn x=104->Z.nm x="rfind"
variable{c:Nat}
section
variable{Z:Sy}{X:Env}{w:World}{gk:Str->AV->GK}{n m:Nat}{ih:Ih}{L:Nat}{cs:Cs}{G:Nat->Addr}{s:Shared}{E:Value->Shared->Prop}
theorem Nz{an:Nat->Bool}{k:Nat}(K:kV Z X gk an)(S:SR Z w G st s.heap)(O:st.T.get j=some (.ch fa cs c k))(hc:st.T.get c=some (.ca k)):FnAt Z X gk an G st.nx s.heap (G j) fa cs:=by
 refine gd (S.ob j _ O) λ o fd ho hd hz wb qa kZ=>?_;refine cZ (K.ch _ _ _ hz) λ g b vs t k1 k2 k3 k4 B=>ib B λ k5 k6 k7=>?_;refine xA (S.ob c _ hc) λ J _=>?_;refine⟨o,fd,g,b,[],none,ho,hd,k1,k2,k3,⟨G c,Z.ca k,vs,t,qa,J,k6,k7⟩,λ M=>?_,rfl,by rw[k5];exact .nil,kZ⟩;rw[k4];exact Looks.of_pure rfl
theorem mY{an:Nat->Bool}{f}{fv}(C:Calls Z w X gk an)(K:kV Z X gk an)(hB:Oe Z w X)(hY:NV Z w)(O:IQ Z w X gk an n ih.C)(hF:ma X ih.C)(h:mZ X ih f as st=some (v,ab))(r:bt (n+1) A)(F:VR Z G st.nx s.heap f fv)(V:br Z G st.nx s.heap as us)(S:SR Z w G st s.heap)(q:Kt Z w G st s Q v ab):
  (∀M:Model,∃k,(k=Keeper.frame\/k=Keeper.machine\/k=Keeper.boundFrame)/\Looks M s.heap (keeperOf fv) k)/\aD w A (call fv us) Q E s:=by
 have hu:A.units<=9300:=by have:=r.units;lia
 cases f with
 |r j=>
  refine F.inR λ hj=>aX h λ o ho h=>?_;cases o with
  |ch fa cs c k=>
   refine aX h λ o2 h2 h=>aX h λ k' hk h=>?_;cases o2 with|ca k2=>exact kW h λ hb h=>have B:=Nz (gk:=gk) K S ho<|bC hb▸h2;⟨tG B,wpAny_call<|O h r.down B V S q⟩|_=>exact nn hk
  |_=>exact nn h
 |g a=>
  refine(VR.un F:fv=_)▸ ?_;have h:(match X.cl.get a with|none=>cj (Nat.blt a 1358) (ih.C a as [] st)|some cl=>Kn ih a cl as st)=_:=h;cases J:X.cl.get a with
  |none=>
   rw[J]at h;exact kW h λ hb h=>xE (hF h) λ g hg=>have B:=C.fn a g hg hb _ S.ready G st.nx;⟨tG B,wpAny_call<|O h r.down B V S q⟩
  |some cl=>
   rw[J]at h;exact⟨iI (C.cl a cl J) λ c1 c2 c3 _=>λ M=>keeps_K c3 _<|mL S.ready,xm C O hF J h r V S q⟩
 |bi k=>exact(VR.un F:fv=_)▸⟨λ M=>⟨.machine,.inr<|.inl rfl,.now⟩,hB h r.handled hu V S q⟩|ty k=>exact(VR.un F:fv=_)▸⟨λ M=>⟨.machine,.inr<|.inl rfl,.now⟩,hY h r.handled hu V S q⟩|_=>exact nn h
end
structure h_(Z:Sy)(w:World)(X:Env)(gk:Str->AV->GK):Prop where
 r:jp Z X gk X.an
 c:Calls Z w X gk X.an
 k:kV Z X gk X.an
 b:Oe Z w X
 t:NV Z w
 m:Aa Z w X
variable{ov:Value}{pl:Sem Bool}
section
variable{Z:Sy}{X:Env}{w:World}{gk:Str->AV->GK}{n m:Nat}{ih:Ih}{L:Nat}{cs:Cs}{G:Nat->Addr}{s:Shared}{E:Value->Shared->Prop}
theorem Bj{k:Nat}{f}{g}{l}(hc:aE Z.nm gk X.an k sc f g=true)(B:xH f=true):
  eval (.Call g l [] pos) env=(eval g env>>=λ fv=>callWith pos fv [] (backTo pos<|starEach l env) []):=
 sJ (b:=(Nat.beq · 20)) hc (ord g).call (by cases f<;>first|rfl|exact ff B) l pos env
theorem Bx{f}{as}{g}{l}{k:Nat}(W:h_ Z w X gk)(hE:jf Z w gk X.an n ih.E)(oH:qD Z w gk X.an n ih.Es)(hC:IQ Z w X gk X.an n ih.C)(hF:ma X ih.C)(h:zN X ih L cs f as st=some (v,ab))(O:aE Z.nm gk X.an k sc f g=true)(hn:xH f=true)(ha:aV (aE Z.nm gk X.an k sc) as l=true)(r:bt (n+1) A)(N:a7 Z G st.nx L cs sc env)(S:SR Z w G st s.heap)(q:Kt Z w G st s Q v ab):aD w A (eval (.Call g l [] pos) env) Q E s:=by
 refine dR h λ fv ac e1 h=>?_;refine dR h λ us af e2 h=>?_;rw[Bj O hn];refine ah<|hE e1 O r.down N S λ az u aq B V=>?_;refine eP (by rw[eg,gh ha])<|oH e2 ha r.down (N.kp B.kp) B.sr λ aa vs ci J bO=>?_;exact mY W.c W.k W.b W.t hC hF h r (V.kp B.sr J.kp) bO J.sr λ ay v' s' cM qB=>q ay v' s' ((B.trans S J).trans S cM) qB
theorem xR{M}{o}{apos:Pos}{k:Nat}(B:methodCallForm k args []=true)(J:(apos.endLine==pos.line)=true)(h:∀pl,wpAny M A (getMethod ov name pl) (λ fx s'=>wpAny M A (callWith pos fx.1 fx.2 args []) Q E s') E s):wpAny M A (methodCall o name apos pos env ov k args []) Q E s:=by
 unfold methodCall;rw[B];refine ah<|wpAny_holding<|cN (h _) (λ fx s' h'=>?_) λ _ _ x=>x;have hp:methodCallPos true o env apos pos=pure pos:=by
  unfold methodCallPos;exact if_pos (by assumption)
 rw[hp];exact ah<|ax h'
theorem Eu{as}{l:List PySem.Expr}{k:Nat}(ha:aV (aE Z.nm gk X.an k sc) as l=true)(hl:Nat.ble (len as) 20=true):methodCallForm (l.length+([]:List Keyword).length) (backTo pos<|starEach l env) []=true:=by
 have h1:=gh (env:=env) ha;have h2:=c_ ha;have B:=dY hl;rw[db]at B;have J:(backTo pos<|starEach l env).any (·.1)=false:=by rw[eg,h1]
 unfold methodCallForm;have O:(backTo pos<|starEach l env).all (λ x=> !x.1)=true:=by
  rw[List.all_eq_true];intro x hx;have:=List.any_eq_false.mp J x hx;simpa using this
 rw[O];simp only[List.all_nil,Bool.true_and,List.length_nil,List.isEmpty_nil,if_true,decide_eq_true_eq];lia
theorem f7{tk:List AV->St->Option (AV×St)}{o:AV}{T id}{as}{l}{k:Nat}{us}(hM:BP Z w id tk o)(oH:qD Z w gk X.an n ih.Es)(h2:ih.Es L cs as st=some (us,af))(h3:tk us af=some (v,ab))(ha:aV (aE Z.nm gk X.an k sc) as l=true)(r:bt (n+1) A)(N:a7 Z G st.nx L cs sc env)(S:SR Z w G st s.heap)(V:VR Z G st.nx s.heap o ov)(hT:s.TypeIs ov T)(pa:PlainAttrs T)(slot:Slot T name id)(J:typeOf (.builtin id)=pure (.type "method_descriptor"))(hd:∀a,ov=.ref a->∃o,s.heap.get? a=some o/\o.dict=none)(q:Kt Z w G st s Q v ab):aD w A (getMethod ov name pl) (λ fx s'=>aD w A (callWith pos fx.1 fx.2 (backTo pos<|starEach l env) []) Q E s') E s:=by
 refine getMethod_builtin hT pa slot J hd ?_;refine eP (by rw[eg,gh ha])<|oH h2 ha r.down N S λ aa vs ci B O=>⟨λ M=>⟨.machine,.inr<|.inl rfl,.now⟩,?_⟩;exact hM h3 r.handled (by have:=r.units;lia) (V.kp S B.kp) O B.sr λ ay v' s' cM qB=>q ay v' s' (B.trans S cM) qB
theorem xS(S:SR Z w G st s.heap){o}(ho:st.T.get j=some o)(hl:rt o=true):s.TypeIs (.ref<|G j) "list" /\∃ob,s.heap.get? (G j)=some ob/\ob.dict=none:=by
 have R:=S.ob j o ho;clear ho;cases o<;>first|(cases hl;done)|skip
 .refine b8 R λ ws c g _=>?_;exact(⟨⟨_,g,rfl⟩,_,g,rfl⟩)
 .refine ji R λ ps qs c g _=>?_;exact(⟨⟨_,g,rfl⟩,_,g,rfl⟩)
theorem fE{s:Shared}{a:Addr}{o:Obj}(ho:s.heap.get? a=some o)(hc:o.ExactDict):s.TypeIs (.ref a) "dict" /\∃ob,s.heap.get? a=some ob/\ob.dict=none:=(⟨⟨_,ho,hc.1⟩,o,ho,hc.2.1⟩)
theorem DR.plain{k:Nat}{es}{a:Addr}(D:DR Z w G k s.heap es a):s.TypeIs (.ref a) "dict" /\∃ob,s.heap.get? a=some ob/\ob.dict=none:=by
 cases D with|int _ D=>exact gT D λ o _ _ ho hc _=>fE ho hc|str _ D=>exact gT D λ o _ _ ho hc _=>fE ho hc|mix _ D=>exact gT D λ o _ _ ho hc _=>fE ho hc
theorem MR.plain{k:Nat}{es}{a:Addr}(D:MR Z w G k s.heap es a):s.TypeIs (.ref a) "dict" /\∃ob,s.heap.get? a=some ob/\ob.dict=none:=by
 cases D with|int _ D=>exact gT D λ o _ _ ho hc _=>fE ho hc|mix _ D=>exact gT D λ o _ _ ho hc _=>fE ho hc
theorem yq(S:SR Z w G st s.heap){o}(ho:st.T.get j=some o)(hl:Js o=true):s.TypeIs (.ref<|G j) "dict" /\∃ob,s.heap.get? (G j)=some ob/\ob.dict=none:=by
 have R:=S.ob j o ho;clear ho;cases o<;>first|(cases hl;done)|skip
 .exact DR.plain R
 .exact MR.plain R
theorem Q_{m:Nat}{r}(h:Ha j m as st=some r):m=100\/m=101\/m=102:=aX h λ o ho h=>jc h (λ h=>nY h λ _=>.inl rfl) λ h=>jc h (λ h=>nY h λ _=>.inr<|.inr rfl) λ h=>nY h λ _=>.inr<|.inl rfl
theorem Rc{m:Nat}{r}(h:OC X j m as st=some r):m=102:=nY h λ _=>rfl
theorem Ra{m:Nat}{r}(h:Rb X j m as st=some r):m=103/\∃es,lk j X.sd=some es:=nY h λ h=>Of (M:=λ _=>_) h λ k d h=>aX h λ es B _=>⟨rfl,es,B⟩
theorem Q9{m:Nat}{r}(h:V7 X j m as st=some r):m=104:=nY h λ _=>rfl
end
variable{C:Nat}{o':PySem.Expr}
section
variable{Z:Sy}{X:Env}{w:World}{gk:Str->AV->GK}{n m:Nat}{ih:Ih}{L:Nat}{cs:Cs}{G:Nat->Addr}{s:Shared}{E:Value->Shared->Prop}
theorem vw{fs}{as}{l}{k:Nat}{us}(W:h_ Z w X gk)(oH:qD Z w gk X.an n ih.Es)(hC:IQ Z w X gk X.an n ih.C)(hF:ma X ih.C)(hb:Nat.blt fa 1358=true)(h2:ih.Es L cs as st=some (us,af))(O:ih.C fa (fs++us) [] af=some (v,ab))(ha:aV (aE Z.nm gk X.an k sc) as l=true)(r:bt (n+1) A)(N:a7 Z G st.nx L cs sc env)(S:SR Z w G st s.heap)(V:br Z G st.nx s.heap fs first)(q:Kt Z w G st s Q v ab):aD w A (callWith pos (.ref fa) first (backTo pos<|starEach l env) []) Q E s:=by
 refine eP (by rw[eg,gh ha])<|oH h2 ha r.down N S λ aa vs ci B bO=>?_;refine xE (hF O) λ g hg=>?_;have J:=W.c.fn fa g hg hb _ B.sr.ready aa af.nx;exact⟨tG J,wpAny_call<|hC O r.down J ((V.kp S B.kp).app bO) B.sr λ ay v' s' cM qB=>q ay v' s' (B.trans S cM) qB⟩
theorem HP{d x:Nat}{f}(B:st.T.get j=some (.inst C d))(J:nU st d=some es)(O:lk x es=some f):yh (.r j) x st=some f:=by
 show bd (bd (st.T.get j) ru) _=_;rw[B];show bd (nU st d) _=_;rw[J];exact O
theorem A7{d x:Nat}{as}{l}{k:Nat}(W:h_ Z w X gk)(oH:qD Z w gk X.an n ih.Es)(hC:IQ Z w X gk X.an n ih.C)(hF:ma X ih.C)(FU:st.T.get j=some (.inst C d))(h:zf X ih L cs (.r j) C d x as st=some (v,ab))(ha:aV (aE Z.nm gk X.an k sc) as l=true)(r:bt (n+1) A)(N:a7 Z G st.nx L cs sc env)(S:SR Z w G st s.heap)(V:VR Z G st.nx s.heap (.r j)<|.ref<|G j)(q:Kt Z w G st s Q v ab):
  aD w A (getMethod (.ref<|G j) (Z.nm x) pl) (λ fx s'=>aD w A (callWith pos fx.1 fx.2 (backTo pos<|starEach l env) []) Q E s') E s:=by
 have X0:=mL S.ready;refine ib (S.ob j _ FU) λ hd hi B=>aX h λ es he h=>bA (S.ob d _<|dz he) λ od dG ep HC Zr hs hz hm=>?_;have II:InstAt s.heap (G j) (instObj C<|G d) C (some od):=⟨hi,rfl,rfl,HC⟩;have J:=hm x;cases hf:lk x es with
 |some f=>
  rw[hf]at h;refine kW h λ Ml h=>dR h λ us af e2 h=>method_usual X0 II (W.r.cls.get _ _ B) (W.c.ga C B) (W.r.cls.no w.params C x B Ml) rfl<|kG (o:=.r j) (y:=f) W.r.cls (HP FU he hf) Ml S V λ v' t V'=>?_;have ye:cH Z w G st s G st {s with toks:=t}:=.tok S t;exact eP (by rw[eg,gh ha]) (oH (s:={s with toks:=t}) e2 ha r.down N S λ aa vs ci O bO=>mY W.c W.k W.b W.t hC hF h r (V'.kp (h:=s.heap) S O.kp) bO O.sr<|q.lY S<|ye.trans S O)
 |none=>
  rw[hf]at h J;refine aX h λ cl kZ h=>aX h λ fa ZF h=>dR h λ us af e2 h=>iI (W.c.Ly C cl x fa kZ ZF) λ m1 m2 m3 m4=>?_;exact method_fn X0 II (W.r.cls.get _ _ B) (W.c.ga C B) m2 m3 (by show(lookIn _ _).map _=_;rw[vY Zr hs J];rfl)<|vw (fs:=[.r j]) W oH hC hF m1 e2 h ha r N S (.cons V .nil) q
theorem jA{s:Shared}{b:Addr}(t2:∃ob,s.heap.get? b=some ob/\ob.dict=none):∀a,Value.ref b=.ref a->∃o,s.heap.get? a=some o/\o.dict=none:=λ a e=>Value.ref.inj e▸t2
theorem xQ{o}{x:Nat}{as}{y}{ap:Pos}{l}{k:Nat}(W:h_ Z w X gk)(hE:jf Z w gk X.an n ih.E)(O:qD Z w gk X.an n ih.Es)(hC:IQ Z w X gk X.an n ih.C)(hF:ma X ih.C)(h:mQ X ih L cs o x as st=some (v,ab))(hx:Z.nm x=y)(ho:aE Z.nm gk X.an k sc o o'=true)(hp:ph o=true)(Jv:(ap.endLine==pos.line)=true)(hl:Nat.ble (len as) 20=true)(ha:aV (aE Z.nm gk X.an k sc) as l=true)(r:bt (n+1) A)(N:a7 Z G st.nx L cs sc env)(S:SR Z w G st s.heap)(q:Kt Z w G st s Q v ab):aD w A (eval (.Call (.Attribute o' y ap) l [] pos) env) Q E s:=by
 refine dR h λ ov ac e1 h=>?_;rw[<-hx,arm_eval_Call,zU ho hp];refine ah<|hE e1 ho r.down N S λ az u aq ak V=>ah<|wpAny_standAt<|xR (Eu ha hl) Jv λ pl=>?_;have wY:=N.kp ak.kp;have B:=ak.sr;have vm:=q.lY S ak;cases ov with
 |s j=>exact dR h λ us af J h=>xE (VR.un V) λ t e=>have hm:=Q9 h;e▸f7 (T:="str") (id:="str.rfind") (W.m.rfind j) O J (hm▸h) ha r wY B (.s j t) (typeIs_str _ _ _) PySem.F.plainAttrs_str ((W.m.Ya x hm).symm▸PySem.F.slot_str_rfind) PySem.F.type_str_rfind (λ a e=>nomatch e) vm|r j=>
  have hu:=(VR.un V).2;rw[hu]at V⊢;refine aX h λ ob FU h=>jc h (λ h=>aX h λ p hp h=>A7 W O hC hF (gx hp▸FU) h ha r wY B V vm) λ h=>jc h (λ h=>kW h λ Eb h=>dR h λ us af J h=>?_) λ h=>kW h λ Eb h=>dR h λ us af J h=>?_
  .refine xA (xS B FU Eb) λ t1 t2=>?_;rcases Q_ h with hm|hm|hm<;>rw[hm]at h
   .exact f7 (T:="list") (id:="list.append") (W.m.append j) O J h ha r wY B V t1 PySem.F.plainAttrs_list ((W.m.Yd x hm).symm▸PySem.F.slot_list_append) PySem.F.type_list_append (jA t2) vm
   .exact f7 (T:="list") (id:="list.extend") (W.m.extend j) O J h ha r wY B V t1 PySem.F.plainAttrs_list ((W.m.Yc x hm).symm▸PySem.F.slot_list_extend) PySem.F.type_list_extend (jA t2) vm
   .exact f7 (T:="list") (id:="list.pop") (W.m.pop j) O J h ha r wY B V t1 PySem.F.plainAttrs_list ((W.m.QW x hm).symm▸PySem.F.slot_list_pop) PySem.F.type_list_pop (jA t2) vm
  .have hm:=Rc h;rw[hm]at h;exact xA (yq B FU Eb) λ t1 t2=>f7 (T:="dict") (id:="dict.pop") (W.m.aa9 j) O J h ha r wY B V t1 PySem.F.plainAttrs_dict ((W.m.QW x hm).symm▸PySem.F.slot_dict_pop) PySem.F.type_dict_pop (jA t2) vm
 |g C=>
  have hu:u=.ref C:=VR.un V;rw[hu]at V⊢;have h:(match X.cl.get C with|some cl=>bd (lk x cl.meths) λ fa=>bF (ih.Es L cs as ac) λ as st=>ih.C fa as [] st|none=>bF (ih.Es L cs as ac) λ as st=>Rb X C (X.bn x) as st)=_:=h;cases kZ:X.cl.get C with
  |some cl=>
   rw[kZ]at h;refine aX h λ fa ZF h=>dR h λ us af J h=>iI (W.c.Ly C cl x fa kZ ZF) λ m1 m2 m3 m4=>eG (W.c.cl C cl kZ) λ c1 c2 c3 c4 c5=>method_cls (mL B.ready) c4<|cls_value (mL B.ready) c5 m4 rfl ?_;exact vw (fs:=[]) (s:={aq with toks:=aq.toks+1}) W O hC hF m1 J h ha r wY B .nil (vm.lY B<|.tok B _)
  |none=>
   rw[kZ]at h;refine dR h λ us af J h=>xA (Ra h) λ hm fy=>xE fy λ es he=>xA (W.r.sd C es he) λ lo hd=>xA (DR.plain<|hd w aq.heap B.ready az ac.nx) λ t1 t2=>?_;rw[hm]at h;exact f7 (T:="dict") (id:="dict.get") (W.m.ZZ C) O J h ha r wY B V t1 PySem.F.plainAttrs_dict ((W.m.Yb x hm).symm▸PySem.F.slot_dict_get) PySem.F.type_dict_get (jA t2) vm
 |_=>exact nn h
end
variable{test:PySem.Expr}{body orelse:List Stmt}{target:PySem.Expr}
section
variable{w:World}{R:Result->Shared->Prop}{s:Shared}
theorem rS(h:wpAny (model prog w) A (isTrue test env<|eval test env) (λ b ci=>
    if b then wpAny (model prog w) A (execs body env) (λ f bM=>match f with|.next|.cont=>codeAny (model prog w) A (.whileLoop test body orelse env) R bM|.brk=>R (.ok .next) bM|.ret v=>R (.ok<|.ret v) bM) (notedBy (model prog w) A env λ e s'=>R (.error e) s') ci
    else wpAny (model prog w) A (execs orelse env) (λ f bM=>R (.ok f) bM) (notedBy (model prog w) A env λ e s'=>R (.error e) s') ci)
    (notedBy (model prog w) A env λ e s'=>R (.error e) s') s):codeAny (model prog w) A (.whileLoop test body orelse env) R s:=by
 refine codeAny_of_tree ?_;show wpAny _ A ((whileTurn test body orelse env).onRaise (λ x=>do noteFrame x env;theTreesLotGoes x)) _ _ s;refine wpAny_noted ?_;simp only[whileTurn];refine ah<|cN h (λ b ci J=>?_) λ _ _ h'=>h';cases b with
 |false=>
  simp only[Bool.false_eq_true,if_false]at J⊢;exact ah (cN J (λ f bM B=>ax B) λ _ _ h'=>h')
 |true=>
  simp only[if_true]at J⊢;refine ah<|cN J (λ f bM B=>?_) λ _ _ h'=>h';cases f with|next=>exact ax ⟨rfl,B⟩|cont=>exact ax ⟨rfl,B⟩|brk=>exact ax B|ret v=>exact ax B
theorem kH{it}(h:wpAny (model prog w) A (pyNext it) (λ r aq=>match r with
   |none=>wpAny (model prog w) A (execs orelse env) (λ f bM=>R (.ok f) bM) (notedBy (model prog w) A env λ e s'=>R (.error e) s') aq
   |some v=>wpAny (model prog w) A (letOwnedTupleGo target it v) (λ _ O=>
     wpAny (model prog w) A (assign target env v) (λ _ ci=>wpAny (model prog w) A (execs body env) (λ f bM=>match f with|.next|.cont=>codeAny (model prog w) A (.forLoop target it body orelse env) R bM|.brk=>R (.ok .next) bM|.ret v=>R (.ok<|.ret v) bM) (notedBy (model prog w) A env λ e s'=>R (.error e) s') ci) (notedBy (model prog w) A env λ e s'=>R (.error e) s') O) (notedBy (model prog w) A env λ e s'=>R (.error e) s') aq)
   (notedBy (model prog w) A env λ e s'=>R (.error e) s') s):codeAny (model prog w) A (.forLoop target it body orelse env) R s:=by
 refine codeAny_of_tree ?_;show wpAny _ A ((forTurn target it body orelse env).onRaise (λ x=>do noteFrame x env;theTreesLotGoes x)) _ _ s;refine wpAny_noted ?_;simp only[forTurn];refine ah<|wpAny_standAt<|ah<|wpAny_onRaise<|cN h (λ r aq J=>?_) λ _ _ h'=>wpAny_standAt h';cases r with|none=>exact ax ⟨rfl,codeAny_block J⟩|some v=>
  refine ah<|cN J (λ _ O J=>?_) λ _ _ h'=>h';refine ah<|cN J (λ _ ci gy=>ah<|cN gy (λ f bM B=>?_) λ _ _ h'=>h') λ _ _ h'=>h';cases f with|next=>exact ax ⟨rfl,B⟩|cont=>exact ax ⟨rfl,B⟩|brk=>exact ax B|ret v=>exact ax B
end
section
variable(Z:Sy)(w:World)(X:Env)(gk:Str->AV->GK)(n:Nat)
def Vd(f:Nat->Cs->IE->List IS->St->Option (Fl×St)):Prop:=
 ∀{L cs t b st fl ab},f L cs t b st=some (fl,ab)->∀{m k sc t' b'},aE Z.nm gk X.an k sc t t'=true->aV (dn Z.nm gk X.an m sc) b b'=true->∀{A env G s},bt n A->a7 Z G st.nx L cs sc env->SR Z w G st s.heap->
  ∀{R:Result->Shared->Prop},(∀ay B s',cH Z w G st s ay ab s'->FZ Z ay ab.nx s'.heap fl B->R (.ok B) s')->codeAny (model pw w) A (.whileLoop t' b' [] env) R s
end
section
variable{Z:Sy}{X:Env}{w:World}{gk:Str->AV->GK}{n m:Nat}{ih:Ih}{L:Nat}{cs:Cs}{G:Nat->Addr}{s:Shared}{E:Value->Shared->Prop}
theorem Kl(hT:z_ Z w gk X.an n ih.E)(hS:BM Z w gk X.an n ih.S)(hW:Vd Z w X gk n ih.W):Vd Z w X gk (n+1) (yU ih):=by
 intro L cs t b st fl ab h m k sc t' b' ht hb A env G s r N S R q;refine dR h λ v ac e1 h=>?_;refine aX h λ x hx h=>?_;refine rS<|hT e1 hx ht r.down N S λ az aq J=>?_;clear hx;cases x with
 |false=>
  refine xA (sP h) λ z0 z1=>?_;clear h;clear h;clear h;subst z0;subst z1;rw[if_neg (by decide)];exact wpAny_execs_nil (q az _ aq J .d6)
 |true=>
  rw[if_pos rfl];refine dR h λ f af e2 h=>?_;refine hS e2 hb r.down (N.kp J.kp) J.sr λ aa f' ci aK F=>?_;have B:=J.trans S aK
  induction F with|d6=>exact hW h ht hb r.down (N.kp B.kp) aK.sr λ ay uG s' cM O=>q ay uG s' (B.trans S cM) O|cont=>exact hW h ht hb r.down (N.kp B.kp) aK.sr λ ay uG s' cM O=>q ay uG s' (B.trans S cM) O|ret V=>refine xA (sP h) λ z0 z1=>?_;subst z0;subst z1;exact q aa _ ci B<|.ret V
end
def gE(Z:Sy)(G:Nat->Addr)(n:Nat)(h:Heap)(it:It)(a:Addr):Prop:=match it with|.vals xs=>∃t items i,h.IsTupleIter a t i/\h.IsTuple t items/\br Z G n h xs (items.toList.drop i)|.lst j k=>j<n/\h.IsListIter a (G j) k|.mr k m=>k<=m/\IsRangeIter h a (k:Nat) ((m:Int)-k) 1
variable{aH:St}{cf:Nat->Addr}{bX:Shared}{n':Nat}
section
variable{Z:Sy}{X:Env}{w:World}{gk:Str->AV->GK}{n m:Nat}{ih:Ih}{L:Nat}{cs:Cs}{G:Nat->Addr}{s:Shared}{E:Value->Shared->Prop}
theorem gE.fields{k:Nat}{h:Heap}{it}{a:Addr}(α:gE Z G k h it a):∃o vs,h.get? a=some o/\o.data=.fields vs/\∃n,o.cls=.type n/\["enumerate","zip","dict_itemiterator","dict_reverseitemiterator","odict_iterator","itertools.zip_longest","itertools.pairwise"].contains n=false:=by
 cases it with
 |vals xs=>refine ji α λ t items i J _=>?_;obtain⟨o,ho,hc,hd⟩:=J;exact(⟨o,_,ho,hd,_,hc,(by rfl)⟩)
 |lst j k=>refine xA α λ _ B=>bc B λ o ho hc hd=>?_;exact(⟨o,_,ho,hd,_,hc,(by rfl)⟩)|mr k m=>refine xA α λ _ ho=>?_;exact(⟨_,_,ho,rfl,_,rfl,(by rfl)⟩)
theorem gE.keeps{n:Nat}{G:Nat->Addr}{h:Heap}{it}{a:Addr}(α:gE Z G n h it a)(hn:n<=n')(J:∀i,i<n->ay i=G i)(hk:bh h h')(B:h'.get? a=h.get? a):gE Z ay n' h' it a:=by
 cases it with
 |vals xs=>
  refine gT α λ t items i z3 z4 V=>?_;obtain⟨o,ho,r⟩:=z3;obtain⟨ot,xd,hc,c,hd⟩:=z4;exact⟨t,items,i,⟨o,B.trans ho,r⟩,⟨ot,hk _ _ _ _ xd hc hd,hc,c,hd⟩,V.keeps hn J hk⟩
 |lst j k=>refine xA α λ O fy=>a8 fy λ o ho r=>?_;exact⟨ba O hn,o,by rw[B];exact ho,by rw[J j O];exact r⟩|mr k m=>exact⟨α.1,B.trans α.2⟩
theorem cH.nf{a:Addr}{t:Nat}(B:cH Z w cf aH bX G st s)(hn:bX.heap.get? a=none)(O:∀i o,st.T.get i=some o->G i≠a)(ha:1358<=a)(hf:∃o vs,s.heap.get? a=some o/\o.data=.fields vs)(J:∀b o,b≠a->s.heap.get? b=some o->h'.get? b=some o):cH Z w cf aH bX G st {s with heap:=h',toks:=t}/\bh s.heap h':=by
 have tk:bh s.heap h':=λ b o ws c e hc hd=>J b o (λ z=>by clear hn O ha J;subst z;refine b8 hf λ o' vs e' uF=>?_;rw[e]at e';obtain rfl:=sI e';rw[hd]at uF;cases uF) e;refine⟨⟨?_,⟨B.sr.lt,B.sr.lo,λ i o e=>?_,B.sr.inj,B.sr.ready.low λ b o hb e=>J b o (λ z=>absurd (z▸hb)<|fe ha) e⟩,⟨B.kp.nx,B.kp.same,B.kp.mn,B.kp.qW,B.kp.new,λ b o e q=>J b o (λ z=>by clear hf;clear O ha J;subst z;rw[hn]at e;exact nn e)<|B.kp.fr b o e q⟩⟩,tk⟩
 .refine j_ B.same λ h t' e=>?_;exact⟨h',t,by rw[e]⟩
 .refine xE ((B.sr.ob i o e).live) λ ob eb=>?_;exact(B.sr.ob i o e).keeps (a9 _) (λ _ _=>rfl) tk<|(J _ _ (O i o e) eb).trans eb.symm
theorem pO{k:Nat}{it}{a:Addr}{v}{M}{Q:Unit->Shared->Prop}(α:gE Z G k s.heap it a)(q:Q () s):wpAny M A (letOwnedTupleGo target (.ref a) v) Q E s:=by
 refine a5 α.fields λ o vs ho hd J=>a8 J λ c hc B=>?_;have go:∀b,wpAny M A (do
   let o<-load a
   match o.cls,o.data with
   |.type n,.fields vs=>
    if ["enumerate","zip","dict_itemiterator","dict_reverseitemiterator","odict_iterator","itertools.zip_longest","itertools.pairwise"].contains n&&vs[0]?==some (rawInt b)then
     rule "for.unpacks-the-owned-tuple"
     updateField a 0 .none
   |_,_=>pure ()) Q E s:=λ b=>by
  refine ah<|wpAny_load ho ?_;rw[hc,hd];dsimp only;rw[B,Bool.false_and,if_neg (by exactλ h=>nomatch h)];exact ax q
 unfold letOwnedTupleGo;cases target<;>first|exact ax q|skip
 .cases v<;>first|exact ax q|exact go _
 .cases v<;>first|exact ax q|exact go _
end
section
variable(Z:Sy)(w:World)(X:Env)(gk:Str->AV->GK)(n:Nat)
def N8(f:Nat->Cs->TG->It->List IS->St->Option (Fl×St)):Prop:=
 ∀{L cs t it b st fl ab},f L cs t it b st=some (fl,ab)->∀{m sc t' b'},gV Z.nm sc t t'=true->aV (dn Z.nm gk X.an m sc) b b'=true->∀{A env G s},bt n A->a7 Z G st.nx L cs sc env->
  ∀{cf aH bX a},SR Z w cf aH bX.heap->cH Z w cf aH bX G st s->bX.heap.get? a=none->gE Z G st.nx s.heap it a->(∀i o,st.T.get i=some o->G i≠a)->1358<=a->
  ∀{R:Result->Shared->Prop},Kf Z w cf aH bX (λ B s'=>R (.ok B) s') fl ab->codeAny (model pw w) A (.forLoop t' (.ref a) b' [] env) R s
end
section
variable{Z:Sy}{X:Env}{w:World}{gk:Str->AV->GK}{n m:Nat}{ih:Ih}{L:Nat}{cs:Cs}{G:Nat->Addr}{s:Shared}{E:Value->Shared->Prop}
def Lf(r:Option<|AV×It)(P:Prop)(R:AV×It->Prop):Prop:=match r with|none=>P|some p=>R p
theorem pD(H:fi Z X){it}{a:Addr}{r:Option<|AV×It}{Q:Option Value->Shared->Prop}(h:kw st.T it=some r)(hh:A.handled=none)(l0:SR Z w cf aH bX.heap)(B:cH Z w cf aH bX G st s)(hn:bX.heap.get? a=none)(α:gE Z G st.nx s.heap it a)(hu:∀i o,st.T.get i=some o->G i≠a)(ha:1358<=a)(q:∀h' t,(∀b o,b≠a->s.heap.get? b=some o->h'.get? b=some o)->cH Z w cf aH bX G st {s with heap:=h',toks:=t}->Lf r (Q none {s with heap:=h',toks:=t}) λ p=>∀v,VR Z G st.nx h' p.1 v->gE Z G st.nx h' p.2 a->Q (some v) {s with heap:=h',toks:=t}):aD w A (pyNext<|.ref a) Q E s:=by
 have O:∃o vs,s.heap.get? a=some o/\o.data=.fields vs:=let⟨o,vs,x,y,_⟩:=α.fields;⟨o,vs,x,y⟩;cases it with
 |vals xs=>
  refine gT α λ t items i ii it V=>?_;clear α;cases xs with
  |nil=>
   obtain rfl:=sI h;have hx:items[i]?=none:=by
    have:=V.1;simp at this;simp;grind
   refine wpAny_pyNext_tuple_end hh ii it hx λ h' J=>?_;exact q h' s.toks J (B.nf hn hu ha O J).1
  |cons x xs=>
   obtain rfl:=sI h;refine a5 V.gf λ v ws e r1 r2=>?_;have hx:items[i]?=some v:=by
    have:(items.toList.drop i)[0]?=some v:=by rw[e];rfl
    simpa using this
   refine wpAny_pyNext_tuple_item ii it hx λ h' hi hs=>?_;refine xA (B.nf (t:=s.toks) hn hu ha O hs.extBut) λ A' tk=>?_;have:=q h' s.toks hs.extBut A';refine this v (r1.keeps (a9 _) (λ _ _=>rfl) tk) ⟨t,items,i+1,hi,it.extBut hs.extBut<|λ z=>?_,?_⟩
   .clear hn hu ha ii q hi hs this;subst z;refine b8 O λ o vs e1 e2=>?_;refine bc it λ o' e3 _ fy=>xE fy λ c e4=>?_;rw[e1]at e3;obtain rfl:=sI e3;rw[e2]at e4;cases e4
   .have:items.toList.drop (i+1)=ws:=by
     have:(items.toList.drop i).drop 1=ws:=by rw[e];rfl
     rwa [List.drop_drop]at this
    rw[this];exact r2.keeps (a9 _) (λ _ _=>rfl) tk
 |lst j k=>
  refine xA α λ hj ii=>aX h λ xs hx h=>a5 (B.sr.ob j _<|AL hx) λ ws c g W len=>?_;have J4:s.heap.IsList (G j) ws.toArray:=⟨_,g,rfl,c,rfl⟩;rw[kC]at h;cases hx:xs[k]? with
  |some x=>
   rw[hx]at h;obtain rfl:=sI h;exact a8 (W.at hx) λ v hv rv=>wpAny_pyNext_list_item ii J4 (List.getElem?_toArray.trans hv) λ h' hi hs=>xA (B.nf (t:=s.toks) hn hu ha O hs.extBut) λ A' tk=>q h' s.toks hs.extBut A' v (rv.keeps (a9 _) (λ _ _=>rfl) tk) ⟨hj,hi⟩
  |none=>
   rw[hx]at h;obtain rfl:=sI h;exact wpAny_pyNext_list_end hh ii J4 (List.getElem?_toArray.trans<|List.getElem?_eq_none_iff.mpr<|W.1▸List.getElem?_eq_none_iff.mp hx) λ h' J=>q h' s.toks J (B.nf hn hu ha O J).1
 |mr k m=>
  refine xA α λ hk ii=>?_;unfold kw at h;dsimp only at h;rw[py]at h;by_cases J:k<m
  .rw[decide_eq_true J]at h;obtain rfl:=sI h;refine wpAny_pyNext_range_item ii (by lia) λ h' hi hs=>?_;refine xA (B.nf (t:=s.toks+1) hn hu ha O hs.extBut) λ A' tk=>?_;refine q h' _ hs.extBut A' (.int (k:Int) s.toks) ?_ ⟨J,?_⟩
   .have:=VR.i (Z:=Z) (G:=G) (n:=st.nx) (h:=h') 0 (Int.ofNat k) s.toks;rw[H.z0,Int.zero_add]at this;exact this
   .have e1:((k:Int)+1)=((Nat.succ k:Nat):Int):=by rfl
    have e2:((m:Int)-k-1)=(m:Int)-(Nat.succ k:Nat):=by lia
    rw[e1,e2]at hi;exact hi
  .rw[decide_eq_false J]at h;obtain rfl:=sI h;refine wpAny_pyNext_range_end hh ii (by lia) λ h' J=>?_;exact q h' s.toks J (B.nf hn hu ha O J).1
theorem MC(H:fi Z X)(α:bB Z)(hS:BM Z w gk X.an n ih.S)(hF:N8 Z w X gk n ih.F):N8 Z w X gk (n+1) (yV ih):=by
 intro L cs t it b st fl ab h m sc t' b' ht hb A env G s r N cf aH bX a l0 B hn It hu ha R q;refine aX h λ r0 RY h=>?_;refine kH<|pD H RY r.handled l0 B hn It hu ha λ h' tk _ O=>?_;clear RY;cases r0 with
 |none=>
  refine xA (sP h) λ z0 z1=>?_;clear h;clear h;subst z0;subst z1;exact wpAny_execs_nil (q G _ _ O .d6)
 |some p=>
  intro v V J6;refine aX h λ ac e1 h=>?_;refine dR h λ f af e2 h=>?_;refine pO (s:={s with heap:=h',toks:=tk}) J6<|dH (s:={s with heap:=h',toks:=tk}) α e1 ht r.handled N O.sr V λ aq ak=>?_;refine hS e2 hb r.down (N.kp ak.kp) ak.sr λ aa f' ci aK F=>?_;have J:=ak.trans O.sr aK;have B2:=O.trans l0 J;refine b8 J6.fields λ oi vs BR _=>?_;have live:ci.heap.get? a=some oi:=J.kp.fr a oi BR λ i o e z=>hu i o e z;have hO:gE Z aa af.nx ci.heap p.2 a:=J6.keeps J.kp.nx J.kp.same (J.kp.tup O.sr)<|live.trans BR.symm;have Mb:∀i o,af.T.get i=some o->aa i≠a:=λ i o e z=>by
   by_cases hi:i<st.nx
   .refine xE (J.kp.qW i o e hi) λ o' e'=>?_;exact hu i o' e' ((J.kp.same i hi).symm.trans z)
   .have:=J.kp.new i o e<|Nat.not_lt.mp hi;rw[z]at this;rw[show({s with heap:=h',toks:=tk}:Shared).heap.get? a=some oi from BR]at this;exact ns this
  induction F with|d6=>exact hF h ht hb r.down (N.kp J.kp) l0 B2 hn hO Mb ha q|cont=>exact hF h ht hb r.down (N.kp J.kp) l0 B2 hn hO Mb ha q|ret V=>refine xA (sP h) λ z0 z1=>?_;clear h;subst z0;subst z1;exact q aa _ ci B2<|.ret V
end
variable{e':PySem.Expr}{b':List Stmt}{rg:Str}{rp cp:Pos}{it:IE}{xc:PySem.Expr}{RL:It}
section
variable{Z:Sy}{X:Env}{w:World}{gk:Str->AV->GK}{n m:Nat}{ih:Ih}{L:Nat}{cs:Cs}{G:Nat->Addr}{s:Shared}{Q:Flow->Shared->Prop}{E:Value->Shared->Prop}
theorem Eo{k:Nat}(hc:aE Z.nm gk X.an k sc ir e=true)(x:Value):foldedSetIterable e env x=pure x:=sJ (b:=(Nat.beq · 7)) hc (ord e).fold (oC ir).2.1 env x
theorem pT{it}{Q:Value->Shared->Prop}(h:pU st.T v=some it)(V:VR Z G st.nx s.heap v u)(S:SR Z w G st s.heap)(q:∀s',cH Z w G st s G st s'->s.heap.get? s.heap.objs.size=none->gE Z G st.nx s'.heap it s.heap.objs.size->(∀i o,st.T.get i=some o->G i≠s.heap.objs.size)->1358<=s.heap.objs.size->Q (.ref s.heap.objs.size) s'):aD w A (pyIter u) Q E s:=by
 have O:∀i o,st.T.get i=some o->G i≠s.heap.objs.size:=λ i o e z=>by
  refine xE ((S.ob i o e).live) λ ob J=>?_;rw[z,ef]at J;exact nn J
 refine jc h (λ h=>Qm h V λ xs ws a o c h ho kZ hd W=>?_) λ h=>jW h V λ j hj h=>aX h λ xs hx h=>?_<;>obtain rfl:=sI h
 .have T:s.heap.IsTuple a ws.toArray:=⟨_,ho,kZ,c,hd⟩;have B:=cH.VK S {cls:=.type "tuple_iterator",data:=.fields #[.ref a,.int 0 0]};exact wpAny_pyIter_tuple T (q _ B (ef _) ⟨a,ws.toArray,0,⟨_,Heap.get?_push_size _ rfl,rfl,rfl⟩,T.push _,W.kp S B.kp⟩ O<|cm S.ready)
 .refine a5 (S.ob j _<|AL hx) λ ws c g W len=>?_;have B:=cH.VK S {cls:=.type "list_iterator",data:=.fields #[.ref<|G j,.int 0 0]};exact wpAny_pyIter_list ⟨_,g,rfl,c,rfl⟩<|q _ B (ef _) ⟨hj,_,Heap.get?_push_size _ rfl,rfl,rfl⟩ O<|cm S.ready
theorem HS{t}{e}{b}{k:Nat}(hE:jf Z w gk X.an n ih.E)(hF:N8 Z w X gk n ih.F)(h:Xj ih L cs t e b st=some (fl,ab))(ht:gV Z.nm sc t t'=true)(J:aE Z.nm gk X.an k sc e e'=true)(hb:aV (dn Z.nm gk X.an k' sc) b b'=true)(r:bt n A)(N:a7 Z G st.nx L cs sc env)(S:SR Z w G st s.heap)(q:Kf Z w G st s Q fl ab):aD w A (exec (.For t' e' b' [] pos) env) Q E s:=by
 refine dR h λ v ac e1 h=>?_;refine aX h λ it hi h=>?_;refine wpAny_For (hE e1 J r N S λ az u aq B V=>pT hi V B.sr λ ci O hn α hu ha=>?_)<|Eo J;exact hF h ht hb r (N.kp B.kp) B.sr O hn α hu ha<|q.lY S B
theorem oZ{nn:Nat}{e}{k:Nat}{Q:Value->Shared->Prop}(R:jp Z X gk X.an)(hE:jf Z w gk X.an n ih.E)(e1:ih.E L cs e st=some (.i 0<|Int.ofNat nn,ac))(Wh:nn<=100000)(hg:(match gk rg (.ty 5)with|.no=>false|_=>true)=true)(hl:sc.names.lookup rg=some .globalImplicit)(J:aE Z.nm gk X.an k sc e e'=true)(r:bt n A)(N:a7 Z G st.nx L cs sc env)(S:SR Z w G st s.heap)(q:∀az aq ci,cH Z w G st s az ac aq->cH Z w az ac aq az ac ci->aq.heap.get? aq.heap.objs.size=none->gE Z az ac.nx ci.heap (.mr 0 nn) aq.heap.objs.size->(∀i o,ac.T.get i=some o->az i≠aq.heap.objs.size)->1358<=aq.heap.objs.size->Q (.ref aq.heap.objs.size) ci):
  aD w A (eval (.Call (.Name rg rp) [e'] [] cp) env) (λ u aq=>aD w A (pyIter u) Q E aq) E s:=by
 refine eG (gq N.ok) λ _ _ _ d1 _=>?_;show wpAny _ _ (eval (.Name rg rp) env>>=λ fv=>callWith cp fv [] (backTo cp<|starEach [e'] env) []) _ _ _;refine ah<|mJ R.glob hl hg d1 N S.ready λ fv V=>?_;have O:fv=.type "range" :=by
  have:=V G st.nx;clear V;cases this;rw[R.tn5]
 clear V;subst O;have Zm:aV (aE Z.nm gk X.an k sc) [e] [e']=true:=by show(aE Z.nm gk X.an k sc e e'&&true)=true;rw[J];rfl
 refine eP (by rw[eg,gh Zm]) ?_;rw[qw J];refine spliced_cons<|hE e1 J r N S λ az u aq ak mV=>spliced_nil ⟨λ M=>⟨.machine,.inr<|.inl rfl,.now⟩,?_⟩;cases mV with|i _ _ t=>
 have hz:Z.σ 0+Int.ofNat nn=(nn:Int):=by rw[R.x.z0];exact Int.zero_add _
 rw[hz];refine call_range_1 ?_;refine wpAny_pyIter_range (IsRange.new ..) (small_one (by simp) (by simp) (by simp) (by lia)) ?_;generalize ({cls:=.type "range",data:=.fields #[.int 0 aq.toks,.int (nn:Int) t,.int 1<|aq.toks+1]}:Obj)=ob;have RF:=bP aq.heap ob;have RE:=bP (aq.heap.push ob) {cls:=.type "range_iterator",data:=.fields #[rawInt 0,rawInt<|Builtin.Range.rangeSize 0 (nn:Int) 1,rawInt 1]};refine xA (ak.sr.more RF) λ B K1=>?_;refine xA (B.more RE) λ S2 K2=>?_;have S1:Builtin.Range.rangeSize 0 (nn:Int) 1=(nn:Int)-(0:Nat):=by rw[rangeSize_nat];rfl
 have A1:cH Z w az ac aq az ac {aq with heap:=aq.heap.push ob,toks:=aq.toks+1+1}:=⟨⟨_,_,rfl⟩,B,K1⟩;refine q az {aq with heap:=aq.heap.push ob,toks:=aq.toks+1+1} _ (ak.trans S A1) ⟨⟨_,_,rfl⟩,S2,K2⟩ (ef _) ⟨dp _,?_⟩ (λ i o e z=>?_) (cm B.ready)
 .rw[<-S1];exact Heap.get?_push_size _ rfl
 .refine xE ((B.ob i o e).live) λ he eb=>?_;rw[z]at eb;exact absurd (dJ eb)<|Nat.lt_irrefl _
theorem vg{e}(h:o7 it=some e):∃x,it=.call (.cJ x<|.ty 5) [e]:=by
 cases it with
 |call f as=>cases f with
  |cJ x v=>cases v with
   |ty k=>exact nY (M:=λ k=>∃y,IE.call (.cJ x<|.ty k) as=.call (.cJ y<|.ty 5) [e]) h λ h=>xB (M:=λ as=>∃y,IE.call (.cJ x<|.ty 5) as=.call (.cJ y<|.ty 5) [e]) h λ a l h=>(by
    cases l with|nil=>exact gH h ⟨x,rfl⟩|cons _ _=>exact nn h)
   |_=>exact nn h
  |_=>exact nn h
 |_=>exact nn h
theorem q_{i}(h:Av v=some i):∃n,v=.i 0 (Int.ofNat n)/\n<=100000/\i=.mr 0 n:=Ow h λ v o h=>nY h λ h=>by
 cases o with|ofNat n=>exact AW h λ B h=>(cC n rfl B (sI h).symm)|negSucc n=>exact nn h
theorem DT{k:Nat}{Q:Value->Shared->Prop}(R:jp Z X gk X.an)(hE:jf Z w gk X.an n ih.E)(h:Jp ih L cs it st=some (RL,ac))(c1:aE Z.nm gk X.an k sc it xc=true)(r:bt n A)(N:a7 Z G st.nx L cs sc env)(S:SR Z w G st s.heap)(q:∀az aq ci,cH Z w G st s az ac aq->cH Z w az ac aq az ac ci->aq.heap.get? aq.heap.objs.size=none->gE Z az ac.nx ci.heap RL aq.heap.objs.size->(∀i o,ac.T.get i=some o->az i≠aq.heap.objs.size)->1358<=aq.heap.objs.size->Q (.ref aq.heap.objs.size) ci):
  aD w A (eval xc env) (λ u aq=>aD w A (pyIter u) Q E aq) E s:=by
 have h:(match o7 it with|some e=>bF (ih.E L cs e st) λ v st=>bd (Av v) λ i=>some (i,st)|none=>bF (ih.E L cs it st) λ v st=>bd (pU st.T v) λ xs=>some (xs,st))=_:=h;cases O:o7 it with
 |none=>
  rw[O]at h;refine dR h λ v af J h=>aX h λ xs hi h=>?_;refine xA (sP h) λ z0 B=>?_;clear h;subst z0;subst B;exact hE J c1 r N S λ az u aq ak V=>pT hi V ak.sr λ ci aK hn It hu ha=>q az aq ci ak aK hn It hu ha
 |some e=>
  rw[O]at h;refine xE (vg O) λ x B=>dR h λ v af J h=>aX h λ i hi h=>?_;refine xA (sP h) λ z0 B=>?_;clear h;subst z0;subst B;refine bc (q_ hi) λ nn z2 Wh z3=>?_;rw[z2]at J;rw[B]at c1;rw[z3]at q;cases k with|zero=>exact ff c1|succ k=>
   refine i5 c1 λ g l ks p c1=>BJ c1 λ h0 c1=>oe c1 λ g1 _ _ g2=>eO h0<|q5 g2 λ e' l g3 g4=>uy g4 ?_;cases k with|zero=>exact ff g1|succ k=>exact cy g1 λ y p g1=>i_ g1 λ _ y2 y3=>oZ R hE J Wh y3 (bq y2) g3 r N S q
theorem Em{t}{e}{b}{k:Nat}(R:jp Z X gk X.an)(hE:jf Z w gk X.an n ih.E)(hF:N8 Z w X gk n ih.F)(h:Pw ih L cs t e b st=some (fl,ab))(J:gW t=true)(ht:yT Z.nm sc t t'=true)(hr:Jd gk rg=true)(hl:sc.names.lookup rg=some .globalImplicit)(he:aE Z.nm gk X.an k sc e e'=true)(hb:aV (dn Z.nm gk X.an k' sc) b b'=true)(r:bt n A)(N:a7 Z G st.nx L cs sc env)(S:SR Z w G st s.heap)(q:Kf Z w G st s Q fl ab):aD w A (exec (.For t' (.Call (.Name rg rp) [e'] [] cp) b' [] pos) env) Q E s:=by
 refine dR h λ v ac O h=>aX h λ i hi h=>bc (q_ hi) λ nn z2 Wh z3=>?_;rw[z2]at O;rw[z3]at h;have tt:gV Z.nm sc t t'=true:=by cases t<;>first|exact ht|exact ff J
 exact wpAny_For (oZ R hE O Wh (aR hr) hl he r N S λ az aq ci B aK hn It hu ha=>hF h tt hb r (N.kp B.kp) B.sr aK hn It hu ha<|q.lY S B)<|λ x=>rfl
end
def Vx(Z:Sy)(w:World)(X:Env)(gk:Str->AV->GK)(n:Nat)(f:Nat->Cs->IE->St->Option (AV×St)):Prop:=
 ∀{L cs t e st v ab B},jN e=false->f L cs e st=some (v,ab)->jq L cs t v ab=some B->∀{m sc t' e'},gV Z.nm sc t t'=true->aE Z.nm gk X.an m sc e e'=true->mw t e=true->∀{A env G s pos},bt n A->a7 Z G st.nx L cs sc env->SR Z w G st s.heap->
  ∀{Q:Flow->Shared->Prop}{E:Value->Shared->Prop},(∀ay s',cH Z w G st s ay B s'->Q .next s')->aD w A (exec (.Assign [t'] e' pos) env) Q E s
def wZ(Z:Sy)(w:World):Prop:=
 ∀{v o st fl ab},RQ v o st=some (fl,ab)->∀{A G s u ov sl t1 t2},VR Z G st.nx s.heap v u->VR Z G st.nx s.heap o ov->SR Z w G st s.heap->s.heap.IsSliceOf sl (.int 0 t1) (.int 0 t2) .none->
  ∀{Q:Unit->Shared->Prop}{E:Value->Shared->Prop},(∀s',cH Z w G st s G ab s'->fl=.d6->Q () s')->aD w A (setItem ov (.ref sl) u) Q E s
variable{ts:List PySem.Expr}{k2 c1 c2 c3:Nat}
section
variable{Z:Sy}{X:Env}{w:World}{gk:Str->AV->GK}{n m:Nat}{ih:Ih}{L:Nat}{cs:Cs}{G:Nat->Addr}{s:Shared}{Q:Flow->Shared->Prop}{E:Value->Shared->Prop}
theorem uW{k:Nat}{e}{t:Option PySem.Expr}{ln:Nat}(hc:aE Z.nm gk X.an k sc e e'=true)(B:jN e=true):swapsWith e' t ln env=pure false:=sJ (b:=λ i=>[7,8,9,10].any (Nat.beq i)) hc (ord e').swap (by cases e<;>first|rfl|exact ff B) t ln env
theorem r_{k:Nat}{e}{p}{B}(hc:aE Z.nm gk X.an k sc e e'=true)(hp:mw (.tup B) e=true):swappedStores [.Tuple ts c p] e' env=pure none:=sJ (b:=(Nat.beq · 25)) hc (ord e').sto (by cases e<;>first|rfl|exact ff hp) ts c p env
theorem Fb{t}{e}{k:Nat}(α:bB Z)(hE:jf Z w gk X.an n ih.E)(hA:Vx Z w X gk n ih.E)(h:KU ih L cs t e st=some (fl,ab))(B:gV Z.nm sc t t'=true)(O:aE Z.nm gk X.an k sc e e'=true)(hp:mw t e=true)(r:bt n A)(N:a7 Z G st.nx L cs sc env)(S:SR Z w G st s.heap)(q:Kf Z w G st s Q fl ab):aD w A (exec (.Assign [t'] e' pos) env) Q E s:=by
 refine dR h λ v ac e1 h=>?_;refine aX h λ af J h=>?_
 replace q:=q.eq h
 cases hn:jN e with|false=>exact hA hn e1 J B O hp r N S λ ay s' a=>q ay _ s' a .d6|true=>
  have one:assignEach [t'] env=[(false,assign t' env)]:=by
   clear hp J;cases t with|l x=>exact cy B λ _ _ _=>rfl|b9 x=>exact cy B λ _ _ _=>rfl|tup _=>exact iY B λ _ _ _ _=>rfl|bad=>exact ff B
  have hw:swappedStores [t'] e' env=pure none:=by
   clear J;cases t with|tup ts=>exact iY B λ _ _ _ _=>r_ O hp|l x=>exact cy B λ _ _ _=>(ord _).VD _ _ _|b9 x=>exact cy B λ _ _ _=>(ord _).VD _ _ _|bad=>exact ff B
  refine wpAny_Assign_stores (hE e1 O r N S λ az u aq ak V=>?_) (uW O hn) hw;rw[one];exact dH α J B r.handled (N.kp ak.kp) ak.sr V λ ci aK=>q az _ ci (ak.trans S aK) .d6
theorem BG{o e}{x:Nat}{y}{p}{k:Nat}(R:jp Z X gk X.an)(O:jf Z w gk X.an n ih.E)(h:CI ih L cs o x e st=some (fl,ab))(hx:Z.nm x=y)(Ml:X.an x=true)(ho:aE Z.nm gk X.an k sc o o'=true)(he:aE Z.nm gk X.an k2 sc e e'=true)(r:bt n A)(N:a7 Z G st.nx L cs sc env)(S:SR Z w G st s.heap)(q:Kf Z w G st s Q fl ab):aD w A (exec (.Assign [.Attribute o' y p] e' pos) env) Q E s:=by
 refine dR h λ v ac e1 h=>?_;refine dR h λ ov af e2 h=>?_;refine aX h λ aJ e3 h=>?_
 replace q:=q.eq h
 subst hx;refine wpAny_Assign_stores (O e1 he r N S λ az u aq B V=>?_) ((ord _).swa _ _ _ _ _)<|(ord _).sat _ _ _ _;show wpAny _ _ (assign (.Attribute o' (Z.nm x) p) env u) _ _ _;rw[arm_assign_Attribute];refine ah<|wpAny_holding<|O e2 ho r (N.kp B.kp) B.sr λ aa ou ci J bO=>ah<|wpAny_standAt<|ah<|wpAny_holding ?_;have hO:=B.trans S J;exact oU R.cls R.inj e3 Ml J.sr bO (V.kp B.sr J.kp) λ bM cM=>wpAny_release<|q aa _ bM (hO.trans S cM) .d6
theorem BF{o k e}{k'}{p}(R:jp Z X gk X.an)(hE:jf Z w gk X.an n ih.E)(h:CH X ih L cs o k e st=some (fl,ab))(ho:aE Z.nm gk X.an c1 sc o o'=true)(hk:aE Z.nm gk X.an c2 sc k k'=true)(he:aE Z.nm gk X.an c3 sc e e'=true)(r:bt n A)(N:a7 Z G st.nx L cs sc env)(S:SR Z w G st s.heap)(q:Kf Z w G st s Q fl ab):aD w A (exec (.Assign [.Subscript o' k' p] e' pos) env) Q E s:=by
 refine dR h λ v ac e1 h=>?_;refine dR h λ ov af e2 h=>?_;refine dR h λ kv aJ e3 h=>?_;refine aX h λ bk e4 h=>?_
 replace q:=q.eq h
 refine wpAny_Assign_Subscript (hE e1 he r N S λ az u aq J V=>hE e2 ho r (N.kp J.kp) J.sr λ aa ou ci B bO=>hE e3 hk r ((N.kp J.kp).kp B.kp) B.sr λ e_ ku bM O qB=>?_)<|(ord _).ssb _ _ _ _ _;have BL:=(J.trans S B).trans S O;exact oT R.x R.inj e4 O.sr (bO.kp B.sr O.kp) qB ((V.kp J.sr B.kp).kp B.sr O.kp) r.un λ qJ E7=>q e_ _ qJ (BL.trans S E7) .d6
theorem BH{o e}{ka kb:Nat}{pa pb p1 p2}(R:jp Z X gk X.an)(hI:wZ Z w)(hE:jf Z w gk X.an n ih.E)(h:Jc ih L cs o e st=some (fl,ab))(ho:aE Z.nm gk X.an c1 sc o o'=true)(he:aE Z.nm gk X.an c3 sc e e'=true)(r:bt n A)(N:a7 Z G st.nx L cs sc env)(S:SR Z w G st s.heap)(q:Kf Z w G st s Q fl ab):aD w A (exec (.Assign [.Subscript o' (.Slice (some<|.Constant (.int 0) ka pa) (some<|.Constant (.int 0) kb pb) none p1) p2] e' pos) env) Q E s:=by
 refine dR h λ v ac e1 h=>?_;refine dR h λ ov af e2 h=>?_;refine wpAny_Assign_Subscript (hE e1 he r N S λ az u aq J V=>hE e2 ho r (N.kp J.kp) J.sr λ aa ou ci B bO=>?_)<|(ord _).ssb _ _ _ _ _;refine wpAny_Slice ?_;rw[evalPart_some,evalPart_some,evalPart_none];refine wpAny_Constant_int<|wpAny_Constant_int<|ax ?_;have hO:=J.trans S B;refine xA (B.sr.more<|bP ci.heap {cls:=.type "slice",data:=.fields #[.int 0 ci.toks,.int 0<|ci.toks+1,.none]}) λ O K=>?_;have A3:cH Z w aa af ci aa af {ci with heap:=ci.heap.push {cls:=.type "slice",data:=.fields #[.int 0 ci.toks,.int 0<|ci.toks+1,.none]},toks:=ci.toks+1+1}:=⟨⟨_,_,rfl⟩,O,K⟩;exact hI h (s:={ci with heap:=ci.heap.push {cls:=.type "slice",data:=.fields #[.int 0 ci.toks,.int 0<|ci.toks+1,.none]},toks:=ci.toks+1+1}) ((V.kp J.sr B.kp).kp B.sr K) (bO.kp B.sr K) O (Heap.IsSliceOf.new ..)
  λ qJ E7 e=>by clear h;subst e;exact q aa _ qJ ((hO.trans S A3).trans S E7) .d6
end
variable{k1:Nat}
section
variable{Z:Sy}{X:Env}{w:World}{gk:Str->AV->GK}{n m:Nat}{ih:Ih}{L:Nat}{cs:Cs}{G:Nat->Addr}{s:Shared}{Q:Flow->Shared->Prop}{E:Value->Shared->Prop}
theorem tl{x:Nat}{y}{Q:Value->Shared->Prop}(h:Ic cs x st=some (v,ab))(J:rc Z.nm sc x y .cell=true)(N:a7 Z G st.nx L cs sc env)(S:SR Z w G st s.heap)(q:∀v',ab=st->VR Z G st.nx s.heap v v'->Q v' s):aD w A (loadName env y) Q E s:=by
 refine aX h λ c B h=>aX h λ o ho h=>aX h λ u O h=>aX h λ Gd hv h=>?_;rw[kL O,hv]at ho;refine xA (sP h) λ z0 z1=>?_;clear h;subst z0;refine cI (S.ob c _ ho) λ o ov ho _ uF hm=>xA (N.cells x c B) λ wb hl=>?_;cases ov with|none=>exact hm.elim|some val=>exact xA (cW J) λ a b=>wpAny_loadName_cell N.kf (N.kx b) (a▸hl) ⟨o,ho,uF⟩<|q val z1.symm hm
theorem BC{x:Nat}{e}{y}{p}{k:Nat}(R:jp Z X gk X.an)(hE:jf Z w gk X.an n ih.E)(h:Jb ih L cs x op e st=some (fl,ab))(J:rc Z.nm sc x y .cell=true)(ho:FJ op kY=true)(he:aE Z.nm gk X.an k sc e e'=true)(r:bt n A)(N:a7 Z G st.nx L cs sc env)(S:SR Z w G st s.heap)(q:Kf Z w G st s Q fl ab):aD w A (exec (.AugAssign (.Name y p) kY e' pos) env) Q E s:=
 dR h λ a aH e0 h=>dR h λ c ac e1 h=>aX h λ v e2 h=>aX h λ aJ e3 hz=>xA (cW J) λ hx hl=>wpAny_AugAssign_Name (tl e0 J N S λ u O V=>by
  subst O;exact hE e1 he r N S λ az u' aq B mV=>kM R.x ho e2 (V.kp S B.kp) mV λ t v' V'=>kP (s:={aq with toks:=t}) e3 hx hl (N.kp B.kp) B.sr V' λ bM cM=>q.eq hz az _ bM ((B.kj S t).trans S cM) .d6)
theorem BD{o e}{x:Nat}{y}{p}{k:Nat}(R:jp Z X gk X.an)(hE:jf Z w gk X.an n ih.E)(h:CG ih L cs o x op e st=some (fl,ab))(hx:Z.nm x=y)(O:X.an x=true)(ho:FJ op kY=true)(Zq:aE Z.nm gk X.an k sc o o'=true)(he:aE Z.nm gk X.an k2 sc e e'=true)(r:bt n A)(N:a7 Z G st.nx L cs sc env)(S:SR Z w G st s.heap)(q:Kf Z w G st s Q fl ab):
  aD w A (exec (.AugAssign (.Attribute o' y p) kY e' pos) env) Q E s:=by
 refine dR h λ ov ac e1 h=>aX h λ a ea h=>dR h λ c af e2 h=>aX h λ v ev h=>aX h λ aJ e3 h=>?_;subst hx;refine wpAny_AugAssign_AttributeAny<|hE e1 Zq r N S λ az ou aq B mV=>kG R.cls ea O B.sr mV λ au t Va=>?_;refine hE (s:={aq with toks:=t}) e2 he r (N.kp B.kp) B.sr λ aa cu ci J bO=>kM R.x ho ev (Va.kp (h:=aq.heap) B.sr J.kp) bO λ t2 v' V'=>?_;exact oU (s:={ci with toks:=t2}) R.cls R.inj e3 O J.sr (mV.kp B.sr J.kp) V' λ bM cM=>q.eq h aa _ bM ((((B.kj S t).trans S J).kj S t2).trans S cM) .d6
theorem BB{o k e}{k'}{p}(R:jp Z X gk X.an)(hE:jf Z w gk X.an n ih.E)(h:Ja X ih L cs o k op e st=some (fl,ab))(ho:FJ op kY=true)(Zq:aE Z.nm gk X.an c1 sc o o'=true)(hk:aE Z.nm gk X.an c2 sc k k'=true)(he:aE Z.nm gk X.an c3 sc e e'=true)(r:bt n A)(N:a7 Z G st.nx L cs sc env)(S:SR Z w G st s.heap)(q:Kf Z w G st s Q fl ab):
  aD w A (exec (.AugAssign (.Subscript o' k' p) kY e' pos) env) Q E s:=by
 refine dR h λ ov ac e1 h=>dR h λ kv af e2 h=>aX h λ a ea h=>dR h λ c aJ e3 h=>aX h λ v ev h=>aX h λ bk e4 h=>?_;refine wpAny_AugAssign_SubscriptAny (hE e1 Zq r N S λ az ou aq J mV=>hE e2 hk r (N.kp J.kp) J.sr λ aa ku ci B bO=>?_)<|sJ (b:=(Nat.beq · 26)) hk (ord k').aug (oC k).2.2;have hO:=J.trans S B;refine a5 (qb (Q:=λ nl bM=>aD w A (eval e' env) (λ v qJ=>aD w A (inplaceOp kY nl v) (λ new Gv=>aD w A (setItem ou ku new) (λ _=>Q .next) E Gv) E qJ) E bM) (E:=E) (A:=A) R.x R.inj R.sd ea B.sr (mV.kp J.sr B.kp) bO r.un λ t au Va=>?_) λ _ _ _ _ g=>g;refine hE (s:={ci with toks:=t}) e3 he r ((N.kp J.kp).kp B.kp) B.sr λ e_ cu bM O qB=>kM R.x ho ev (Va.kp (h:=ci.heap) B.sr O.kp) qB λ t2 v' V'=>?_;exact oT (s:={bM with toks:=t2}) R.x R.inj e4 O.sr ((mV.kp J.sr B.kp).kp B.sr O.kp) (bO.kp B.sr O.kp) V' r.un λ qJ E7=>q.eq h e_ _ qJ ((((hO.kj S t).trans S O).kj S t2).trans S E7) .d6
theorem HW{e}{k:Nat}(hE:jf Z w gk X.an n ih.E)(h:(bF (ih.E L cs e st) λ _ st=>some (Fl.d6,st))=some (fl,ab))(B:aE Z.nm gk X.an k sc e e'=true)(hn:jN e=true)(r:bt n A)(N:a7 Z G st.nx L cs sc env)(S:SR Z w G st s.heap)(q:Kf Z w G st s Q fl ab):aD w A (exec (.Expr e' pos) env) Q E s:=
 dR h λ v ac O h=>wpAny_Expr_any (hE O B r N S λ az u aq J V=>q.eq h az _ aq J .d6) (by unfold interactive;rw[N.kf];rfl)<|uW B hn
theorem CM{e:Option IE}{e':Option PySem.Expr}{k:Nat}(hE:jf Z w gk X.an n ih.E)(h:Pu ih L cs e st=some (fl,ab))(B:yA (aE Z.nm gk X.an k sc) e e'=true)(r:bt n A)(N:a7 Z G st.nx L cs sc env)(S:SR Z w G st s.heap)(q:Kf Z w G st s Q fl ab):aD w A (exec (.Return e' pos) env) Q E s:=by
 cases e with|none=>exact FX B (wpAny_Return_none<|q.eq h G _ s (.refl S)<|.ret .none)|some e=>exact t4 B λ e' B=>dR (show bF (ih.E L cs e st) (λ v st=>some (Fl.ret v,st))=_ from h) λ v ac O h=>wpAny_Return_some<|hE O B r N S λ az u aq J V=>q.eq h az _ aq J<|.ret V
theorem HA{t}{a b}{a'}{k:Nat}(hT:z_ Z w gk X.an n ih.E)(J:BM Z w gk X.an n ih.S)(h:Xi ih L cs t a b st=some (fl,ab))(ht:aE Z.nm gk X.an k sc t t'=true)(ha:aV (dn Z.nm gk X.an k1 sc) a a'=true)(hb:aV (dn Z.nm gk X.an k2 sc) b b'=true)(r:bt n A)(N:a7 Z G st.nx L cs sc env)(S:SR Z w G st s.heap)(q:Kf Z w G st s Q fl ab):aD w A (exec (.If t' a' b' pos) env) Q E s:=
 dR h λ v ac O h=>aX h λ x hx h=>wpAny_If (hT O hx ht r N S λ az aq B=>by
  cases x with|true=>rw[if_pos rfl];exact J h ha r (N.kp B.kp) B.sr (q.lY S B)|false=>rw[if_neg (by decide)];exact J h hb r (N.kp B.kp) B.sr<|q.lY S B)
end
variable{fv:Flow}{f0:Stmt}{f':List Stmt}{E':Value->Shared->Prop}{h0:ExceptHandler}{hs:List ExceptHandler}
section
variable{Z:Sy}{X:Env}{w:World}{gk:Str->AV->GK}{n m:Nat}{ih:Ih}{L:Nat}{cs:Cs}{G:Nat->Addr}{s:Shared}{Q:Flow->Shared->Prop}{E:Value->Shared->Prop}
theorem FZ.up(F:FZ Z az ac.nx aq.heap fl fv)(S:SR Z w az ac aq.heap)(a:cH Z w az ac aq aa af ci):FZ Z aa af.nx ci.heap fl fv:=F.rec .d6 .cont λ V=>.ret<|V.kp S a.kp
theorem Et{f}{k:Nat}(hS:BM Z w gk X.an n ih.S)(h:(bF (ih.S L cs f ac) λ g st=>zD lM g st)=some (fl,ab))(hf:aV (dn Z.nm gk X.an k sc) f (f0::f')=true)(r:bt n A)(N:a7 Z az ac.nx L cs sc env)(J:SR Z w az ac aq.heap)(F:FZ Z az ac.nx aq.heap lM fv)(q:Kf Z w az ac aq Q fl ab):aD w A (execs (f0::f') env) (λ g s'=>match g with|.next=>Q fv s'|g=>Q g s') E' aq:=
 dR h λ g af e2 h=>hS e2 hf r N J λ aa O ci B ρ=>
  ρ.rec (motive:=λ g O _=>zD lM g af=some (fl,ab)->(λ g=>match g with|.next=>Q fv ci|g=>Q g ci) O) (λ h=>q.eq h aa fv ci B<|F.up J B) (λ h=>nn h) (λ _ h=>nn h) h
theorem zC{f}{k:Nat}(J:BM Z w gk X.an n ih.S)(h:(bF (ih.S L cs f ac) λ g st=>zD lM g st)=some (fl,ab))(O:aV (dn Z.nm gk X.an k sc) f (f0::f')=true)(r:bt n A)(N:a7 Z G st.nx L cs sc env)(S:SR Z w G st s.heap)(B:cH Z w G st s az ac aq)(F:FZ Z az ac.nx aq.heap lM fv)(q:Kf Z w G st s Q fl ab):aD w A (execs (f0::f') env) (λ g s'=>match g with|.next=>Q fv s'|g=>Q g s') E' aq:=Et J h O r (N.kp B.kp) B.sr F<|q.lY S B
theorem Aj{b f}(B:BM Z w gk X.an n ih.S)(h:y5 ih L cs b f st=some (fl,ab))(hb:aV (dn Z.nm gk X.an k1 sc) b b'=true)(hf:aV (dn Z.nm gk X.an k2 sc) f (f0::f')=true)(r:bt n A)(N:a7 Z G st.nx L cs sc env)(S:SR Z w G st s.heap)(q:Kf Z w G st s Q fl ab):aD w A (exec (.Try b' [] [] (f0::f') pos) env) Q E s:=
 dR h λ lM ac O h=>wpAny_Try_finally (B O hb r N S λ az fv aq J F=>
  have go:=λ{E':Value->Shared->Prop}=>zC (E':=E') (Q:=Q) B h hf r N S J F q
  match fv,go with|.next,go=>wpAny_execs_nil go|.cont,go=>go|.ret _,go=>go|.brk,go=>go)
theorem Co{b f}(B:BM Z w gk X.an n ih.S)(h:y5 ih L cs b f st=some (fl,ab))(hb:aV (dn Z.nm gk X.an k1 sc) b b'=true)(hf:aV (dn Z.nm gk X.an k2 sc) f (f0::f')=true)(r:bt n A)(N:a7 Z G st.nx L cs sc env)(S:SR Z w G st s.heap)(q:Kf Z w G st s Q fl ab):aD w A (exec (.Try b' (h0::hs) [] (f0::f') pos) env) Q E s:=
 dR h λ lM ac O h=>wpAny_Try_except_finally (B O hb r N S λ az fv aq J F=>
  have go:=λ{E':Value->Shared->Prop}=>zC (E':=E') (Q:=Q) B h hf r N S J F q
  match fv,go with|.next,go=>wpAny_execs_nil go|.cont,go=>go|.ret _,go=>go|.brk,go=>go)
theorem Ak{b}(J:BM Z w gk X.an n ih.S)(h:ih.S L cs b st=some (fl,ab))(hb:aV (dn Z.nm gk X.an k1 sc) b b'=true)(r:bt n A)(N:a7 Z G st.nx L cs sc env)(S:SR Z w G st s.heap)(q:Kf Z w G st s Q fl ab):aD w A (exec (.Try b' (h0::hs) [] [] pos) env) Q E s:=
 wpAny_Try_except (J h hb r N S λ az fv aq B F=>have go:=q az fv aq B F
  match fv,go with|.next,go=>wpAny_execs_nil go|.cont,go=>go|.ret _,go=>go|.brk,go=>go)
theorem C0{i}{stmt}{k:Nat}(W:h_ Z w X gk)(hI:wZ Z w)(J:jf Z w gk X.an n ih.E)(hT:z_ Z w gk X.an n ih.E)(hA:Vx Z w X gk n ih.E)(hS:BM Z w gk X.an n ih.S)(hW:Vd Z w X gk n ih.W)(hF:N8 Z w X gk n ih.F)(h:uX X ih L cs i st=some (fl,ab))(hc:dn Z.nm gk X.an k sc i stmt=true)(r:bt n A)(N:a7 Z G st.nx L cs sc env)(S:SR Z w G st s.heap)(q:Kf Z w G st s Q fl ab):
  aD w A (exec stmt env) Q E s:=by
 cases k with|zero=>exact ff hc|succ k=>
  cases i with|asg t e=>exact gb hc λ ts e' p hc=>gJ hc λ t' hc=>i_ hc λ c1 c2 c3=>Fb W.r.inj J hA h c1 c2 c3 r N S q|n_ o x e=>exact gb hc λ ts e' p hc=>gJ hc λ t' hc=>ez hc λ o' y _ hc=>oe hc λ c1 c2 c3 B=>BG W.r J h (bq c1) c2 c3 B r N S q|mR o k e=>exact gb hc λ ts e' p hc=>gJ hc λ t' hc=>cU hc λ o' y _ hc=>i_ hc λ c1 c2 c3=>BF W.r J h c1 c2 c3 r N S q|Iv o e=>exact gb hc λ ts e' p hc=>gJ hc λ t' hc=>cU hc λ o' y _ hc=>oJ hc λ a b d _ hc=>NK hc λ c1 c2 c3 B O=>TA Z.nm c1 λ _ _=>TA Z.nm c2 λ _ _=>FX c3 (BH W.r hI J h B O r N S q)|Iu x op e=>exact iZ hc λ t kY e' _ hc=>cy hc λ y _ hc=>i_ hc λ c1 c2 c3=>BC W.r J h c1 c2 c3 r N S q|n7 o x op e=>exact iZ hc λ t kY e' _ hc=>ez hc λ o' y _ hc=>NK hc λ c1 c2 c3 B O=>BD W.r J h (bq c1) c2 c3 B O r N S q|Ir o k op e=>exact iZ hc λ t kY e' _ hc=>cU hc λ o' y _ hc=>oe hc λ c1 c2 c3 B=>BB W.r J h c1 c2 c3 B r N S q|ex e=>exact H9 hc λ e' _ hc=>HW J h (aL hc) (aR hc) r N S q|ret e=>exact Bo hc λ e' _ hc=>CM J h hc r N S q|cont=>exact wD hc λ _ _=>wpAny_Continue (q.eq h G _ s (.refl S) .cont)|iff t a b=>exact Tx hc λ t' a' b' _ hc=>i_ hc λ c1 c2 c3=>HA hT hS h c1 c2 c3 r N S q|Ga t b=>exact EJ hc λ t' b' o _ hc=>eO (aL hc) (wpAny_While<|hW h (aL<|aR hc) (aR<|aR hc) r N S q)|fr t e b=>exact yp hc λ t' e' b' o _ hc=>eO (aL hc) (i_ (aR hc) λ c1 c2 c3=>HS J hF h c1 c2 c3 r N S q)|BV t e b=>exact yp hc λ t' it b' o _ hc=>eO (aL hc) (i5 (aR hc) λ f as ks _ hc=>eO (aL hc)<|cy (aR hc) λ rg _ hc=>gJ hc λ e' hc=>Fe hc λ c1 c2 c3 B O c6=>Em W.r J hF h c1 c2 c3 (bq B) O c6 r N S q)|Cg b f=>exact yo hc λ b' hs o f' _ hc=>oe hc λ c1 c2 c3 B=>eO c1 (eO c2<|Ia c3 (λ _ _ B=>Aj hS h (aL B) (aR B) r N S q) B)|VB b f=>exact yo hc λ b' hs o f' _ hc=>oe hc λ c1 c2 c3 B=>Ia c1 λ _ _=>eO c2 (Ia c3 (λ _ _ B=>Co hS h (aL B) (aR B) r N S q) B)|Gn b=>exact yo hc λ b' hs o f' _ hc=>oe hc λ c1 c2 c3 B=>Ia c1 λ _ _=>eO c2 (eO c3<|Ak hS h B r N S q)|iq=>exact nn h|WI x f=>exact nn h|bad y=>exact nn h
theorem KR(W:h_ Z w X gk)(hI:wZ Z w)(hE:jf Z w gk X.an n ih.E)(hT:z_ Z w gk X.an n ih.E)(hA:Vx Z w X gk n ih.E)(J:BM Z w gk X.an n ih.S)(hW:Vd Z w X gk n ih.W)(hF:N8 Z w X gk n ih.F):BM Z w gk X.an (n+1) (IZ X ih):=by
 intro L cs is st fl ab h m sc body hb A env G s r N S Q E q;cases is with|nil=>exact(lr hb).symm▸wpAny_execs_nil (q.eq h G _ s (.refl S) .d6)|cons i is=>
  refine a5 (gn hb) λ stmt b z2 c1 c2=>z2▸dR h λ f ac e1 h=>wpAny_execs_cons<|C0 W hI hE hT hA J hW hF e1 c1 r.down N S λ az O aq B F=>?_;exact F.rec (motive:=λ f O _=>xD ih L cs is f ac=some (fl,ab)->(λ g s'=>match g with|.next=>aD w A (execs b env) Q E s'|g=>Q g s') O aq) (λ h=>J h c2 r.down (N.kp B.kp) B.sr<|q.lY S B) (λ h=>q.eq h az _ aq B .cont) (λ V h=>q.eq h az _ aq B<|.ret V) h
end
variable{iter:PySem.Expr}{scope:Scope}
section
variable{w:World}{R:Result->Shared->Prop}{s:Shared}
theorem wK{elt}{ifs}{it acc}(h:wpAny (model prog w) A (pyNext it) (λ r aq=>match r with
   |none=>R (.ok .next) aq
   |some v=>wpAny (model prog w) A (letOwnedTupleGo target it v) (λ _ uV=>wpAny (model prog w) A (assign target env v) (λ _ ci=>
     wpAny (model prog w) A (forIn ifs true λ c r=>if r=true then do let ok<-isTrue c env (eval c env);pure (ForInStep.yield ok)else pure (ForInStep.yield r)) (λ ok bM=>
      if ok=true then wpAny (model prog w) A (eval elt env) (λ x qJ=>
       wpAny (model prog w) A (call (.builtin "list.append") [acc,x]) (λ _ J=>codeAny (model prog w) A (.compLoop (.ListComp elt [⟨target,iter,ifs,0⟩] scope pos) 0 it acc env) R J) (notedBy (model prog w) A env λ e s'=>R (.error e) s') qJ) (notedBy (model prog w) A env λ e s'=>R (.error e) s') bM
      else codeAny (model prog w) A (.compLoop (.ListComp elt [⟨target,iter,ifs,0⟩] scope pos) 0 it acc env) R bM) (notedBy (model prog w) A env λ e s'=>R (.error e) s') ci) (notedBy (model prog w) A env λ e s'=>R (.error e) s') uV) (notedBy (model prog w) A env λ e s'=>R (.error e) s') aq)
   (notedBy (model prog w) A env λ e s'=>R (.error e) s') s):codeAny (model prog w) A (.compLoop (.ListComp elt [⟨target,iter,ifs,0⟩] scope pos) 0 it acc env) R s:=by
 refine codeAny_of_tree ?_;show wpAny _ A ((compTurn (.ListComp elt [⟨target,iter,ifs,0⟩] scope pos) 0 it acc env).onRaise (λ x=>do noteFrame x env;theTreesLotGoes x)) _ _ s;refine wpAny_noted ?_;rw[compTurn_list];refine ah<|wpAny_standAt<|ah<|cN h (λ r aq B=>?_) λ _ _ h'=>h';cases r with|none=>exact ax B|some v=>
  refine ah<|cN B (λ _ uV B=>?_) λ _ _ h'=>h';refine ah<|cN B (λ _ ci gy=>ah<|cN gy (λ ok bM O=>?_) λ _ _ h'=>h') λ _ _ h'=>h';cases ok with|false=>exact ax ⟨rfl,O⟩|true=>
   exact ah<|ah<|cN O (λ x qJ Zh=>ah<|cN Zh (λ _ J L9=>ax<|ax ⟨rfl,L9⟩) λ _ _ h'=>h') λ _ _ h'=>h'
end
section
variable{Z:Sy}{X:Env}{w:World}{G:Nat->Addr}{s:Shared}
theorem cH.drop{L:Nat}{o}(l0:SR Z w cf aH bX.heap)(B:cH Z w cf aH bX G st s)(hL:aH.nx<=L)(e:st.T.get L=some o)(hs:Heap.SameBut (G L) s.heap h'):
  cH Z w cf aH bX G (bK L st) {s with heap:=h'}/\bh s.heap h':=by
 have tk:bh s.heap h':=λ a ob ws m ea hc hd=>(hs.2 a λ z=>(B.sr.ob L o e).tup (z▸ea) hc hd).trans ea;have key:∀j,(bK L st).T.get j=if j=L then none else st.T.get j:=λ j=>TR.fW st.T L j
 have nl:∀j x,(bK L st).T.get j=some x->j≠L/\st.T.get j=some x:=λ j x J=>by
  rw[key]at J;by_cases O:j=L
  .rw[if_pos O]at J;exact nn J
  .rw[if_neg O]at J;exact⟨O,J⟩
 refine⟨⟨?_,⟨λ j x J=>B.sr.lt j x (nl j x J).2,λ j x J=>B.sr.lo j x (nl j x J).2,λ j x J=>?_,λ j k x y J ek q=>B.sr.inj j k x y (nl j x J).2 (nl k y ek).2 q,?_⟩,
  ⟨B.kp.nx,B.kp.same,λ j x J=>?_,λ j x J O=>B.kp.qW j x (nl j x J).2 O,λ j x J O=>B.kp.new j x (nl j x J).2 O,λ b ob eb q=>?_⟩⟩,tk⟩
 .refine j_ B.same λ h t r=>?_;exact⟨h',t,by rw[r]⟩
 .refine xA (nl j x J) λ O J=>?_;exact(B.sr.ob j x J).keeps (a9 _) (λ _ _=>rfl) tk (hs.2 _ λ z=>O<|B.sr.inj j L x o J e z)
 .exact B.sr.ready.low λ b ob hb eb=>(hs.2 b λ z=>absurd (B.sr.lo L o e)<|Nat.not_le.mpr<|z▸hb).trans eb
 .have O:j≠L:=λ z=>absurd (l0.lt j x J)<|fe<|z▸hL;refine xE (B.kp.mn j x J) λ o' e'=>?_;exact⟨o',by rw[key,if_neg O];exact e'⟩
 .have z:=B.kp.fr b ob eb q;refine(hs.2 b λ y=>?_).trans z;have:=B.kp.new L o e hL;rw[<-y,eb]at this;exact ns this
theorem cH.Ci{a:Addr}{t:Nat}(B:cH Z w cf aH bX G st s)(hn:bX.heap.get? a=none)(O:∀i o,st.T.get i=some o->G i≠a)(ha:1358<=a)(hf:∃o,s.heap.get? a=some o/\o.cls≠.type "tuple")(J:∀b o,b≠a->s.heap.get? b=some o->h'.get? b=some o):cH Z w cf aH bX G st {s with heap:=h',toks:=t}/\bh s.heap h':=by
 have tk:bh s.heap h':=λ b o ws c e hc hd=>J b o (λ z=>by clear hn O ha J;subst z;refine a8 hf λ o' e' uF=>?_;rw[e]at e';obtain rfl:=sI e';exact uF hc) e;refine⟨⟨?_,⟨B.sr.lt,B.sr.lo,λ i o e=>?_,B.sr.inj,B.sr.ready.low λ b o hb e=>J b o (λ z=>absurd (z▸hb)<|fe ha) e⟩,⟨B.kp.nx,B.kp.same,B.kp.mn,B.kp.qW,B.kp.new,λ b o e q=>J b o (λ z=>by clear hf;clear O ha J;subst z;rw[hn]at e;exact nn e)<|B.kp.fr b o e q⟩⟩,tk⟩
 .refine j_ B.same λ h t' e=>?_;exact⟨h',t,by rw[e]⟩
 .refine xE ((B.sr.ob i o e).live) λ ob eb=>?_;exact(B.sr.ob i o e).keeps (a9 _) (λ _ _=>rfl) tk<|(J _ _ (O i o e) eb).trans eb.symm
theorem cH.adopt{D:Addr}{o}(B:cH Z w cf aH bX G st s)(l0:SR Z w cf aH bX.heap)(hD:bX.heap.get? D=none)(hu:∀i o,st.T.get i=some o->G i≠D)(h0:1358<=D)(H:∀ay,(∀i,i<st.nx->ay i=G i)->OR Z w ay (st.nx+1) s.heap D o):∃ay,ay st.nx=D/\(∀i,i<st.nx->ay i=G i)/\cH Z w cf aH bX ay (a_ o st) s:=by
 have at':(λ i=>if i=st.nx then D else G i) st.nx=D:=by exact if_pos rfl
 have same:∀i,i<st.nx->(λ i=>if i=st.nx then D else G i) i=G i:=λ i hi=>by simp[Nat.ne_of_lt hi]
 generalize (λ i=>if i=st.nx then D else G i)=ay at at' same;have key:∀j,(V.a_ o st).T.get j=if j=st.nx then some o else st.T.get j:=λ j=>TR.bu o st.T st.nx j
 have nl:∀j x,j≠st.nx->(V.a_ o st).T.get j=some x->st.T.get j=some x:=λ j x J e=>by rw[key,if_neg J]at e;exact e
 refine⟨ay,at',same,B.same,⟨λ j x e=>?_,λ j x e=>?_,λ j x e=>?_,λ j k x y ej ek q=>?_,B.sr.ready⟩,⟨de B.kp.nx,λ i hi=>(same i<|ba hi B.kp.nx).trans<|B.kp.same i hi,λ j x e=>?_,λ j x e J=>?_,λ j x e J=>?_,B.kp.fr⟩⟩
 .by_cases J:j=st.nx
  .refine J▸ ?_;exact bZ _
  .exact fh (B.sr.lt j x<|nl j x J e)
 .by_cases J:j=st.nx
  .refine J▸ ?_;rw[at'];exact h0
  .have e':=nl j x J e;rw[same j<|B.sr.lt j x e'];exact B.sr.lo j x e'
 .by_cases J:j=st.nx
  .subst J;rw[key,if_pos rfl]at e;obtain rfl:=sI e;rw[at'];exact H ay same
  .have e':=nl j x J e;rw[same j<|B.sr.lt j x e'];exact(B.sr.ob j x e').keeps (bW _) same (λ _ _ _ _ z _ _=>z) rfl
 .by_cases J:j=st.nx<;>by_cases oG:k=st.nx
  .rw[J,oG]
  .have e':=nl k y oG ek;clear ej;subst J;rw[at',same k<|B.sr.lt k y e']at q;exact absurd q.symm (hu k y e')
  .have e':=nl j x J ej;clear ek;subst oG;rw[at',same j<|B.sr.lt j x e']at q;exact absurd q (hu j x e')
  .have TC:=nl j x J ej;have TB:=nl k y oG ek;rw[same j<|B.sr.lt j x TC,same k<|B.sr.lt k y TB]at q;exact B.sr.inj j k x y TC TB q
 .refine xE (B.kp.mn j x e) λ o' e'=>?_;exact⟨o',by rw[key,if_neg<|Nat.ne_of_lt<|B.sr.lt j o' e'];exact e'⟩
 .have O:j≠st.nx:=dI<|ba J B.kp.nx;exact B.kp.qW j x (nl j x O e) J
 .by_cases O:j=st.nx
  .refine O▸ ?_;rw[at'];exact hD
  .have e':=nl j x O e;rw[same j<|B.sr.lt j x e'];exact B.kp.new j x e' J
end
def Kk(Z:Sy)(w:World)(cf:Nat->Addr)(aH:St)(bX:Shared)(D:Addr)(R:Result->Shared->Prop)(G:Nat->Addr)(st:St)(done vs:List AV)(ab:St):Prop:=
 ∀ay s' B J,cH Z w cf aH bX ay ab s'->st.nx<=ab.nx->(∀i,i<st.nx->ay i=G i)->br Z ay ab.nx s'.heap (done++vs) B->s'.heap.get? D=some (listOf B.toArray J)->(∀i o,ab.T.get i=some o->ay i≠D)->R (.ok .next) s'
variable{done:List AV}
section
variable{Z:Sy}{X:Env}{w:World}{G:Nat->Addr}{D:Addr}{R:Result->Shared->Prop}{vs:List AV}
theorem Kk.eq(q:Kk Z w cf aH bX D R G st done vs ab)(h:some (xs,ac)=some (vs,ab)):Kk Z w cf aH bX D R G st done xs ac:=(sP h).1.symm▸(sP h).2.symm▸q
theorem Kk.lY{h O}(q:Kk Z w cf aH bX D R G st done vs ab)(a:Kp G st h az ac O):Kk Z w cf aH bX D R az ac done vs ab:=λ ay s' us m B hx J=>q ay s' us m B (ae a.nx hx) λ i hi=>(J i<|ba hi a.nx).trans<|a.same i hi
theorem Kk.app(q:Kk Z w cf aH bX D R G st done (v::vs) ab):Kk Z w cf aH bX D R G st (done++[v]) vs ab:=λ ay s' us m B hx J V=>q ay s' us m B hx J<|List.append_assoc done [v] vs▸V
end
section
variable(Z:Sy)(w:World)(X:Env)(gk:Str->AV->GK)(n:Nat)
def yK(f:Nat->Cs->IE->TG->List IE->It->St->Option (List AV×St)):Prop:=
 ∀{L cs elt t ifs it st vs ab},f L cs elt t ifs it st=some (vs,ab)->∀{k k2 sc B t' J},aE Z.nm gk X.an k sc elt B=true->gW t=true->yT Z.nm sc t t'=true->aV (aE Z.nm gk X.an k2 sc) ifs J=true->
  ∀{A env G s},bt n A->a7 Z G st.nx L cs sc env->
  ∀{cf aH bX a D us done m},SR Z w cf aH bX.heap->cH Z w cf aH bX G st s->bX.heap.get? a=none->gE Z G st.nx s.heap it a->(∀i o,st.T.get i=some o->G i≠a)->1358<=a->
  bX.heap.get? D=none->(∀i o,st.T.get i=some o->G i≠D)->1358<=D->D≠a->s.heap.get? D=some (listOf us.toArray m)->br Z G st.nx s.heap done us->done.length+vs.length<=4000->
  ∀{iter scope pos}{R:Result->Shared->Prop},Kk Z w cf aH bX D R G st done vs ab->
   codeAny (model pw w) A (.compLoop (.ListComp B [⟨t',iter,J,0⟩] scope pos) 0 (.ref a) (.ref D) env) R s
end
variable{ifs:List IE}{jo:List PySem.Expr}
section
variable{Z:Sy}{X:Env}{w:World}{gk:Str->AV->GK}{n m:Nat}{ih:Ih}{L:Nat}{cs:Cs}{G:Nat->Addr}{s:Shared}{E:Value->Shared->Prop}
theorem yw{k:Nat}{y:Bool}{Q:Bool->Shared->Prop}(hT:z_ Z w gk X.an n ih.E)(h:rH ih L cs ifs st=some (y,ab))(hc:aV (aE Z.nm gk X.an k sc) ifs jo=true)(r:bt n A)(N:a7 Z G st.nx L cs sc env)(S:SR Z w G st s.heap)(q:Kb Z w G st s Q y ab):
  aD w A (forIn jo true λ c r=>if r=true then do let ok<-isTrue c env (eval c env);pure (ForInStep.yield ok)else pure (ForInStep.yield r)) Q E s:=by
 cases ifs with|nil=>exact lr hc▸wpAny_tests_nil (sj (M:=λ y ab=>Kb Z w G st s Q y ab->Q true s) h (λ q=>q G s<|.refl S) q)|cons e l=>cases l with|nil=>exact a5 (gn hc) λ b l' z c1 c2=>z▸lr c2▸dR (show bF (ih.E L cs e st) (λ v st=>bd (bf st.T v) λ y=>some (y,st))=_ from h) λ v ac B h=>aX h λ x hx h=>wpAny_tests_one (hT B hx c1 r N S<|sj (M:=λ y ab=>Kb Z w G st s Q y ab->Kb Z w G st s Q x ac) h id q)|cons _ _=>exact nn h
theorem Tm(l:List AV)(v:AV)(r:List AV):(l++[v]).length+r.length=l.length+(v::r).length:=(congrArg (· +_) List.length_append).trans<|(Nat.add_assoc _ _ _).trans<|congrArg _<|Nat.add_comm _ _
theorem Cw{t}(hs:gW t=true)(B:yT Z.nm sc t t'=true):gV Z.nm sc t t'=true:=by
 cases t<;>first|exact B|exact ff hs
theorem gv{h B:Heap}{b:Addr}{o}{M:Prop}(K:Kp G st h aa af B)(hb:h.get? b=some o)(J:∀i o,st.T.get i=some o->G i≠b)(k:(∀i o,af.T.get i=some o->aa i≠b)->B.get? b=some o->M):M:=
 k (λ i x e z=>(Nat.lt_or_ge i st.nx).elim (λ hi=>xE (K.qW i x e hi) λ o' e'=>J i o' e'<|(K.same i hi).symm.trans z) λ hi=>ns<|((congrArg h.get? z).trans hb).symm.trans<|K.new i x e hi) (K.fr b o hb J)
theorem LQ(H:fi Z X)(α:bB Z)(hE:jf Z w gk X.an n ih.E)(hT:z_ Z w gk X.an n ih.E)(hK:yK Z w X gk n ih.K):yK Z w X gk (n+1) (stepK ih):=by
 intro L cs elt t ifs it st vs ab h k k2 sc j8 t' jo c1 c2 c3 c5 A env G s r N cf aH bX a D us done m l0 B hn It hu ha OL ZU D0 Ww hD V hlen iter scope pos R q;refine aX h λ r0 RY h=>a5 It.fields λ oa va Zt ZK _=>wK<|pD H RY r.handled l0 B hn It hu ha λ h' tk hk O=>?_;have ZW:h'.get? D=some (listOf us.toArray m):=hk D _ Ww hD;have V':br Z G st.nx h' done us:=V.keeps (a9 _) (λ _ _=>rfl) λ b o ws c e hc hd=>hk b o (λ z=>nomatch ((congrArg Obj.data<|sI<|Zt.symm.trans<|(congrArg s.heap.get? z).symm.trans e).symm.trans ZK).symm.trans hd) e;clear RY;cases r0 with|none=>exact q.eq h G _ us m O (a9 _) (λ _ _=>rfl) ((List.append_nil done).symm▸V') ZW ZU|some p=>
  refineλ v Vv J6=>a5 J6.fields λ oi vi BR _ _=>aX h λ ac e1 h=>dR h λ y af e2 h=>pO (s:={s with heap:=h',toks:=tk}) J6<|dH (s:={s with heap:=h',toks:=tk}) α e1 (Cw c2 c3) r.handled N O.sr Vv λ aq ak=>yw hT e2 c5 r.down (N.kp ak.kp) ak.sr λ aa ci aK=>?_;have J:=ak.trans O.sr aK;clear e2;cases y with
  |false=>
   rw[if_neg (by decide)];exact gv (h:=h') J.kp BR hu λ Mb Rm=>gv (h:=h') J.kp ZW ZU λ ZT Wy=>hK h c1 c2 c3 c5 r.down (N.kp J.kp) l0 (O.trans l0 J) hn (J6.keeps J.kp.nx J.kp.same (J.kp.tup O.sr)<|Rm.trans BR.symm) Mb ha OL ZT D0 Ww Wy (V'.kp (h:=h') O.sr J.kp) hlen (q.lY J.kp)
  |true=>
   rw[if_pos rfl];refine dR h λ yv aJ e3 h=>dR h λ ys bk e4 h=>hE e3 c1 r.down ((N.kp ak.kp).kp aK.kp) aK.sr λ e_ u bM cM V3=>?_;have HI:=J.trans O.sr cM;have B3:=O.trans l0 HI;refine gv (h:=h') HI.kp BR hu λ B' Rl=>gv (h:=h') HI.kp ZW ZU λ BL Wx=>?_;have ul:us.length<=4000:=V.1▸ae (bL _ _) hlen;refine append_at (hsz:=ae ul (by decide)) Wx λ L9 Jt Su=>xA (B3.Ci (t:=bM.toks) OL BL D0 ⟨_,Wx,λ z=>absurd (Value.type.inj z) (by exactλ h=>nomatch h)⟩ Jt.extBut) λ B4 hO=>?_;exact hK (s:={bM with heap:=L9}) e4 c1 c2 c3 c5 r.down ((N.kp J.kp).kp cM.kp) l0 B4 hn (J6.keeps HI.kp.nx HI.kp.same (λ b o ws c e hc hd=>hO b o ws c (HI.kp.tup O.sr b o ws c e hc hd) hc hd)<|(Jt.extBut a oi (Ne.symm Ww) Rl).trans BR.symm) B' ha OL BL D0 Ww (us:=us++[u]) (Su.trans (by rw[<-List.push_toArray]))
    (((V'.kp (h:=h') O.sr HI.kp).app<|.cons V3 .nil).keeps (a9 _) (λ _ _=>rfl) hO) (sj (M:=λ vs _=>done.length+vs.length<=4000->(done++[yv]).length+ys.length<=4000) h (λ l=>Tm done yv ys▸l) hlen) ((q.eq h).app.lY HI.kp)
end
def Eqv(a b:St):Prop:=a.nx=b.nx/\∀i,a.T.get i=b.T.get i
variable{qK:St}
section
variable{Z:Sy}{X:Env}{w:World}{G:Nat->Addr}{s:Shared}{h:Heap}
theorem SR.eqv(S:SR Z w G st h)(e:Eqv st ab):SR Z w G ab h:=by
 refine xA e λ J B=>?_;exact⟨λ i o q=>J▸S.lt i o ((B i).trans q),λ i o q=>S.lo i o<|(B i).trans q,λ i o q=>J▸S.ob i o ((B i).trans q),λ i j o o' q r=>S.inj i j o o' ((B i).trans q)<|(B j).trans r,S.ready⟩
theorem cH.eqv(a:cH Z w G st s ay ab s')(e:Eqv ab qK):cH Z w G st s ay qK s':=by
 have S:=a.sr.eqv e;refine xA e λ J B=>?_;exact⟨a.same,S,⟨J▸a.kp.nx,a.kp.same,λ i o q=>let⟨o',r⟩:=a.kp.mn i o q;⟨o',(B i).symm.trans r⟩,λ i o q=>a.kp.qW i o<|(B i).trans q,λ i o q=>a.kp.new i o<|(B i).trans q,a.kp.fr⟩⟩
end
theorem mD{k:Nat}{f:Nat->Bool}{v:I}:∀{l:List<|Nat×I},lk k (l.filter λ p=>f p.1)=some v->f k=true/\lk k l=some v
 |[],h=>by exact nn h|(a,x)::l,h=>by
  rw[List.filter_cons]at h;by_cases B:f a=true
  .rw[if_pos B,iQ]at h;rw[iQ];by_cases ha:a=k
   .rw[if_pos ha]at h⊢;exact⟨ha▸B,h⟩
   .rw[if_neg ha]at h⊢;exact mD h
  .rw[if_neg B]at h;refine xA (mD h) λ a1 J=>?_;refine⟨a1,?_⟩;rw[iQ,if_neg (λ z:a=k=>B (by rw[z];exact a1))];exact J
theorem yX{N:Nat->Str}:∀{fr:List Nat}{l:List<|Str×NameKind},aV (λ i(x:Str×NameKind)=>N i==x.1) fr l=true->(∀p∈l,∃i∈fr,N i=p.1)/\(∀i∈fr,∃p∈l,N i=p.1)
 |[],l,h=>by rw[lr h];exact⟨λ p hp=>(nomatch hp),λ p hp=>(nomatch hp)⟩|a::fr,l,h=>by
  refine a5 (gn h) λ b l' J c1 c2=>?_;clear h;subst J;refine xA (yX c2) λ i1 B=>?_;have c1:N a=b.1:=beq_iff_eq.mp c1;refine⟨λ p hp=>?_,λ i hi=>?_⟩
  .rcases bG hp with rfl|hp
   .exact⟨a,List.mem_cons_self,c1⟩
   .refine a8 (i1 p hp) λ i x y=>?_;exact⟨i,List.mem_cons_of_mem _ x,y⟩
  .rcases bG hi with rfl|hi
   .exact⟨b,List.mem_cons_self,c1⟩
   .refine a8 (B i hi) λ p x y=>?_;exact⟨p,List.mem_cons_of_mem _ x,y⟩
theorem kK:∀(names:List<|Str×NameKind)(acc:List<|Str×Addr),(∀p∈names,p.2=.free->∃a,env.cells.lookup p.1=some a)->(∀n a,acc.lookup n=some a->env.cells.lookup n=some a)->
  ∃cl,(forIn names acc λ(x:Str×NameKind)(cs:List<|Str×Addr)=>if x.2==.free then(do let a<-cellOf env x.1;pure (ForInStep.yield ((x.1,a)::cs)):Sem<|ForInStep<|List<|Str×Addr)else pure (ForInStep.yield cs))=pure cl/\
   (∀n a,cl.lookup n=some a->env.cells.lookup n=some a)/\(∀n a,acc.lookup n=some a->cl.lookup n=some a)/\(∀p∈names,p.2=.free->∃a,cl.lookup p.1=some a)
 |[],acc,_,ha=>(iC acc rfl ha (λ _ _ e=>e) (λ p hp=>nomatch hp))|(n,k)::names,acc,O,ha=>by
  by_cases hk:k=.free
  .subst hk;refine xE (O (n,.free) List.mem_cons_self rfl) λ a e=>?_;have e:env.cells.lookup n=some a:=e;refine du (kK names ((n,a)::acc) (λ p hp=>O p<|List.mem_cons_of_mem _ hp) (λ m b q=>by
    rw[List.lookup_cons]at q;cases hm:m==n with
    |true=>rw[hm]at q;obtain rfl:=sI q;rw[beq_iff_eq.mp hm];exact e
    |false=>rw[hm]at q;exact ha m b q)) λ cl h1 h2 B h4=>?_
   have hn:cl.lookup n=some a:=B n a (by rw[List.lookup_cons,beq_self_eq_true]);refine(iC cl ?_ h2 (λ m b q=>?_)<|λ p hp J=>?_)
   .rw[List.forIn_cons];simp only[beq_self_eq_true,if_true,cellOf,e];exact h1
   .clear O h1;cases hm:m==n with
    |true=>
     have:=beq_iff_eq.mp hm;clear B hm;subst this;have:=ha m b q;rw[e]at this;clear q;obtain rfl:=sI this;exact hn
    |false=>exact B m b (by rw[List.lookup_cons,hm];exact q)
   .rcases bG hp with rfl|hp
    .exact⟨a,hn⟩
    .exact h4 p hp J
  .refine du (kK names acc (λ p hp=>O p<|List.mem_cons_of_mem _ hp) ha) λ cl h1 h2 B h4=>?_;have hb:(k==NameKind.free)=false:=by exact if_neg (by assumption)
   refine(iC cl ?_ h2 B<|λ p hp J=>?_)
   .rw[List.forIn_cons];simp only[hb,Bool.false_eq_true,if_false];exact h1
   .rcases bG hp with rfl|hp
    .exact absurd J hk
    .exact h4 p hp J
theorem yy(J:∀p∈scope.names,p.2=.free->∃a,env.cells.lookup p.1=some a):
  ∃cl,closureFor scope env=pure cl/\(∀n a,cl.lookup n=some a->env.cells.lookup n=some a)/\(∀p∈scope.names,p.2=.free->∃a,cl.lookup p.1=some a):=by
 refine du (kK scope.names [] J (λ n a q=>by exact nn q)) λ cl h1 h2 _ B=>?_;refine(cC cl ?_ h2 B);unfold closureFor;have:∀(x:Str×NameKind)(cs:List<|Str×Addr),(if(x.2==NameKind.free)=true then(do let a<-cellOf env x.1;pure (ForInStep.yield ((x.1,a)::cs)):Sem<|ForInStep<|List<|Str×Addr)else pure (ForInStep.yield cs))=
  (λ(x:Str×NameKind)(cs:List<|Str×Addr)=>if x.2==.free then(do let a<-cellOf env x.1;pure (ForInStep.yield ((x.1,a)::cs)):Sem<|ForInStep<|List<|Str×Addr)else pure (ForInStep.yield cs)) x cs:=λ _ _=>rfl
 show(forIn scope.names [] _>>=λ cs=>pure cs:Sem _)=_;simp only[bind_pure];rw[<-h1]
variable{fC:Scope}{fr:List Nat}
section
variable{Z:Sy}{X:Env}{w:World}{gk:Str->AV->GK}{n m:Nat}{ih:Ih}{L:Nat}{cs:Cs}{G:Nat->Addr}{s:Shared}{E:Value->Shared->Prop}
theorem A2{k:Nat}{it}{a:Addr}(α:gE Z G k s.heap it a)(h:Q (.ref a) s):aD w A (pyIter<|.ref a) Q E s:=by
 cases it with|vals xs=>refine ji α λ t items i ii _=>?_;exact wpAny_pyIter_tupleiter ii h|lst j k=>exact wpAny_pyIter_listiter α.2 h|mr k m=>exact wpAny_pyIter_rangeiter α.2 h
structure yP(Z:Sy)(fC:Scope)(fr:List Nat):Prop where
 ok:y0 fC=true
 Lu:fC.names.filter (·.2==.cell)=[]
 loc:∀x∈fC.names,x.2=.local->fC.names.lookup x.1=some .local
 fr1:∀p∈fC.names,p.2=.free->∃i∈fr,Z.nm i=p.1
 fr2:∀i∈fr,∃p∈fC.names,p.2=.free/\Z.nm i=p.1
theorem yx(h1:y0 fC=true)(h2:wM Z.nm fC fr=true):yP Z fC fr:=by
 unfold wM at h2;refine xA (fS h2) λ h2 J=>?_;refine xA (yX J) λ f1 f2=>?_;have al:=bV h2;refine⟨h1,?_,λ x hx hl=>?_,λ p hp B=>f1 p<|List.mem_filter.mpr ⟨hp,by rw[B];rfl⟩,λ i hi=>?_⟩
 .rw[List.filter_eq_nil_iff];intro p hp B;have:=al p hp;have B:p.2=.cell:=by simpa using B
  rw[B]at this;revert this;exactλ h=>nomatch h
 .have:=al x hx;rw[hl]at this;simpa using this
 .refine a8 (f2 i hi) λ p hp e=>?_;refine xA (List.mem_filter.mp hp) λ p1 O=>?_;exact(cC p p1 (by simpa using O) e)
theorem fL{f:Str×NameKind->Str×NameKind}(B:∀p,(f p).1=p.1):∀{l:List<|Str×NameKind}{x:Str},l.lookup x=none->(l.map f).lookup x=none
 |[],_,_=>rfl|(n,k)::l,x,h=>by
  rw[List.map_cons];have e:f (n,k)=(n,(f (n,k)).2):=Prod.ext (B (n,k)) rfl;rw[e,List.lookup_cons];rw[List.lookup_cons]at h;cases hx:x==n with|true=>rw[hx]at h;exact ns h|false=>rw[hx]at h;exact fL B h
theorem CN(h:y0 fC=true):y0 (gr fC sc)=true:=by
 refine eG (gq h) λ a b c d e=>?_;have hd:(gr fC sc).names.lookup ("__debug__" :Str)=none:=fL (λ p=>by obtain⟨a,b⟩:=p;dsimp only;split<;>rfl) d;have B:(gr fC sc).names.lookup ("__classdict__" :Str)=none:=fL (λ p=>by obtain⟨a,b⟩:=p;dsimp only;split<;>rfl) e;unfold y0;rw[hd,B];show(fC.kind==.function&& !fC.isCoroutine&& !fC.isGenerator&&_&&_)=true;rw[a,b,c];rfl
theorem CO(h:env.scope=sc):relabel fC env=gr fC sc:=by
 unfold relabel gr Env.kindOf;rw[h]
theorem yB(α:bB Z){cl}{Q:PySem.Env->Shared->Prop}(F:yP Z fC fr)(C:Kc Z G st.nx cs' cl)(S:SR Z w G st s.heap)(N:a7 Z G st.nx L cs sc env)(q:∀ay O,cH Z w G st s ay (a_ (.ns []) st) {s with heap:=s.heap.push {cls:=.type "dict",data:=.dict #[]}}->ay st.nx=s.heap.objs.size->O.locals=s.heap.objs.size->a7 Z ay (st.nx+1) st.nx cs' (gr fC sc) {O with scope:=relabel fC env}->
   Q O {s with heap:=s.heap.push {cls:=.type "dict",data:=.dict #[]}}):aD w A (newFunctionEnv fC env.globals cl [] env.qual none .none<|some env) Q E s:=by
 simp only[newFunctionEnv,Option.isSome_some,if_true];refine ah<|wpAny_alloc ?_;refine a8 (cH.push (s:=s) S {cls:=.type "dict",data:=.dict #[]} (.ns []) λ ay _=>rN.empty (Z:=Z) (G:=ay) (n:=st.nx+1) (Heap.get?_push_size _ rfl) rfl) λ az e1 ak=>?_;have Mf:∀(names:List<|Str×NameKind)(f:(Str×NameKind)->List (Str×Addr)->Sem (ForInStep<|List<|Str×Addr))(s:Shared)(Q:List (Str×Addr)->Shared->Prop),names.filter (·.2==.cell)=[]->
   (∀name kind cells,(kind==NameKind.cell)=false->f (name,kind) cells=pure (.yield cells))->Q cl s->aD w A (forIn names cl f) Q E s:=by
  intro names
  induction names with|nil=>intro f s Q _ _ q;exact ax q|cons p names ih=>
   intro f s Q J hf q;obtain⟨name,kind⟩:=p;rw[List.filter_cons]at J;by_cases B:(kind==NameKind.cell)=true
   .rw[if_pos B]at J;cases J
   .rw[if_neg B]at J;rw[List.forIn_cons,hf name kind cl (by simpa using B)];exact ah (ax<|ih f s Q J hf q)
 refine ah<|Mf _ _ _ _ F.Lu (λ name kind cells B=>by simp[B]) ?_;refine ah<|ax<|ax ?_;refine q az _ ak e1 rfl ⟨CO N.scope,CN F.ok,e1.symm,bZ _,N.globals,N.builtins,λ x c e=>?_⟩;refine xA ((C.kp ak.kp) x c e) λ b1 b2=>?_;exact⟨b1,b2⟩
theorem qX(F:yP Z fC fr)(N:a7 Z G st.nx L cs sc env)(ZC:(fr.all λ x=>(lk x cs).isSome)=true):
  ∃cl,closureFor fC env=pure cl/\Kc Z G st.nx (cs.filter λ p=>fr.any<|Nat.beq p.1) cl:=by
 have al:=bV ZC;refine bc (yy (scope:=fC) (env:=env) λ p hp B=>by
  refine a8 (F.fr1 p hp B) λ i hi e=>?_;refine xE (Option.isSome_iff_exists.mp<|al i hi) λ c hc=>?_;exact⟨_,e▸(N.cells i c hc).2⟩) λ cl h1 h2 h3=>?_
 refine⟨cl,h1,λ x c e=>?_⟩;refine xA (mD (f:=λ k=>fr.any<|Nat.beq k) e) λ J e2=>?_;refine xA (N.cells x c e2) λ b1 b2=>?_;refine⟨b1,?_⟩;rw[u8,decide_eq_true_eq]at J;refine bc (F.fr2 x J) λ p hp B O=>?_;refine xE (h3 p hp B) λ a ha=>?_;rw[O,ha,<-h2 _ _ ha,<-O,b2]
end
variable{use:Option<|Value->Sem Unit}{elt:IE}{j8:PySem.Expr}{k3 Lc:Nat}
section
variable{Z:Sy}{X:Env}{w:World}{gk:Str->AV->GK}{n m:Nat}{ih:Ih}{L:Nat}{cs:Cs}{G:Nat->Addr}{s:Shared}{E:Value->Shared->Prop}
theorem Do{h:Heap}{a:Addr}(l:h.objs.size<=a):h.get? a=none:=Option.eq_none_iff_forall_ne_some.mpr λ _ e=>absurd (dJ e)<|fe l
theorem rJ{t}{p}{k:Nat}(R:jp Z X gk X.an)(α:bB Z)(hE:jf Z w gk X.an n ih.E)(hK:yK Z w X gk n ih.K)(h:rG ih L cs elt t it ifs fr st=some (v,ab))(c1:aE Z.nm gk X.an k sc it xc=true)(c2:y0 fC=true)(c3:wM Z.nm fC fr=true)(c4:aE Z.nm gk X.an k2 (gr fC sc) elt j8=true)(c5:gW t=true)(c6:yT Z.nm (gr fC sc) t t'=true)(c8:aV (aE Z.nm gk X.an k3<|gr fC sc) ifs jo=true)(r:bt n A)(N:a7 Z G st.nx L cs sc env)(S:SR Z w G st s.heap)(ρ:∀Lc aJ ys es ay s' D,st.nx<=Lc->Lc<aJ.nx->v=.r aJ.nx->ab=a_ (.list ys) (bK Lc aJ)->aJ.T.get Lc=some (.ns es)->cH Z w G st s ay (a_ (.list ys) aJ) s'->ay aJ.nx=D->
   compPost (model pw w) A E use Q (.ref D) (ay Lc) (.ok .next) s'):
  aD w A (comprehension (.ListComp j8 [⟨t',xc,jo,0⟩] fC p) fC env pos (newList []) false (eval xc env) use) Q E s:=by
 refine dR h λ RL ac e1 h=>kW h λ ZC h=>dR h λ ys aJ e3 h=>aX h λ es Wr h=>AW (show cj (Nat.ble (len ys) 4000) (new (.list ys)<|bK ac.nx aJ)=_ from h) λ hlen h=>?_;rw[db]at hlen;have F:=yx c2 c3;refine a8 (qX F N ZC) λ cl kZ C=>?_;refine wpAny_comprehension_free (cl:=cl) rfl (Eo c1) kZ (gq c2).1 F.loc<|DT R hE e1 c1 r N S λ az aq ci B O hn It hu ha=>?_;refine a5 It.fields λ oi h7 BR h6 _=>?_;have wb:aq.heap.objs.size<ci.heap.objs.size:=dJ BR;refine wpAny_newObj_type ?_;refine xA (O.sr.more<|bP ci.heap {cls:=.type "list",data:=.seq ([]:List Value).toArray}) λ NX IF=>?_;have A3:cH Z w az ac ci az ac {ci with heap:=ci.heap.push {cls:=.type "list",data:=.seq ([]:List Value).toArray}}:=⟨⟨_,ci.toks,rfl⟩,NX,IF⟩;refine yB (s:={ci with heap:=ci.heap.push {cls:=.type "list",data:=.seq ([]:List Value).toArray}}) α F ((C.kp B.kp)) NX (N.kp B.kp) λ aa Bv HI eL eC N4=>?_;generalize hH:ci.heap.push {cls:=.type "list",data:=.seq ([]:List Value).toArray}=H3 at A3 NX IF HI eL eC;have B4:=(O.trans B.sr A3).trans B.sr HI;have OL:aq.heap.get? ci.heap.objs.size=none:=Do<|d4 wb;have Wx:H3.get? ci.heap.objs.size=some (listOf ([]:List Value).toArray 0):=by rw[<-hH];exact Heap.get?_push_size _ rfl
 have h5:∀i o,ac.T.get i=some o->az i≠ci.heap.objs.size:=λ i o e z=>by
  refine xE ((O.sr.ob i o e).live) λ ob eb=>?_;rw[z]at eb;exact absurd (dJ eb) (Nat.lt_irrefl _)
 refine gv (h:=H3) HI.kp Wx h5 λ ZS A4=>?_;have h0:H3.get? aq.heap.objs.size=some oi:=by rw[<-hH];exact bP _ _ _ _ BR
 refine gv (h:=H3) HI.kp h0 hu λ h4 h3=>?_;have J:=A3.trans O.sr HI;have ak:=It.keeps J.kp.nx J.kp.same (J.kp.tup O.sr)<|h3.trans BR.symm;have D0:1358<=ci.heap.objs.size:=cm O.sr.ready;have loop:codeAny (model pw w) A (.compLoop (.ListComp j8 [⟨t',xc,jo,0⟩] fC p) 0 (.ref aq.heap.objs.size) (.ref ci.heap.objs.size) {Bv with scope:=relabel fC env})
   (compPost (model pw w) A E use Q (.ref ci.heap.objs.size) Bv.locals) {ci with heap:=H3.push {cls:=.type "dict",data:=.dict #[]}}:=by
  refine hK e3 c4 c5 c6 c8 r N4 B.sr B4 hn ak h4 ha OL ZS D0 (cV wb) A4 .nil ((Nat.zero_add _).symm▸hlen) λ ay s' mj m' B5 hx hr V5 D5 U5=>?_;refine bc (B5.adopt (o:=.list ys) B.sr OL U5 D0 λ OV same=>⟨mj,m',D5,V5.keeps (bW _) same<|λ _ _ _ _ z _ _=>z,by exact ae (by assumption) (by simp)⟩) λ OV x1 x2 B6=>?_;have aK:ac.nx<aJ.nx:=ba (bZ _) hx;exact((x2 _ aK).trans<|(hr _<|bZ _).trans<|eL.trans eC.symm)▸ρ ac.nx aJ ys es OV s' _ B.kp.nx aK (sP h).1.symm (sP h).2.symm (dz Wr) (B.trans S B6) x1
 exact codeAny_compStart_list loop<|A2 ak loop
theorem wC(B:cH Z w G st s ay ab s')(S:SR Z w G st s.heap)(O:st.nx<=Lc)(e:ab.T.get Lc=some (.ns es)):
  ∃m,s'.heap.Ns (ay Lc) m/\∀h',Heap.SameBut (ay Lc) s'.heap h'->cH Z w G st s ay (bK Lc ab) {s' with heap:=h'}/\bh s'.heap h':=by
 refine a8 (rN.ns<|B.sr.ob Lc _ e) λ mm J _=>?_;exact⟨mm,J,λ h' hs=>B.drop S O e hs⟩
theorem wu{o}(h:Lc<st.nx):Eqv (bK Lc<|a_ o st) (a_ o<|bK Lc st):=by
 refine⟨rfl,λ i=>?_⟩;show((st.T.dL o st.nx).del Lc).get i=((st.T.del Lc).dL o st.nx).get i;rw[TR.fW,TR.bu,TR.bu,TR.fW];by_cases h1:i=Lc
 .rw[if_pos h1,if_neg (by lia),if_pos h1]
 .rw[if_neg h1,if_neg h1]
theorem rI{t}{k:Nat}(R:jp Z X gk X.an)(α:bB Z)(hE:jf Z w gk X.an n ih.E)(hK:yK Z w X gk n ih.K)(h:rG ih L cs elt t it ifs fr st=some (v,ab))(c1:aE Z.nm gk X.an k sc it xc=true)(c2:y0 fC=true)(c3:wM Z.nm fC fr=true)(c4:aE Z.nm gk X.an k2 (gr fC sc) elt j8=true)(c5:gW t=true)(c6:yT Z.nm (gr fC sc) t t'=true)(c8:aV (aE Z.nm gk X.an k3<|gr fC sc) ifs jo=true)(r:bt n A)(N:a7 Z G st.nx L cs sc env)(S:SR Z w G st s.heap)(q:Kt Z w G st s Q v ab):aD w A (eval (.ListComp j8 [⟨t',xc,jo,0⟩] fC pos) env) Q E s:=by
 rw[eval_ListComp];refine rJ (use:=none) R α hE hK h c1 c2 c3 c4 c5 c6 c8 r N S λ Lc aJ ys es ay s' D h1 h2 h3 h4 h5 B hD=>?_;clear h;subst h3 h4;refine a8 (wC (Lc:=Lc) (es:=es) B S h1 (by
  show(aJ.T.dL _ aJ.nx).get Lc=_;rw[TR.bu,if_neg<|Nat.ne_of_lt h2];exact h5)) λ m hm go=>?_
 refine⟨m,hm,λ h' hs=>?_⟩;refine xA (go h' hs) λ O tk=>?_;have J:=O.eqv<|wu h2;refine q ay _ _ J ?_;rw[<-hD];exact .r _<|bZ _
end
variable{bk:St}
section
variable{Z:Sy}{X:Env}{w:World}{gk:Str->AV->GK}{n m:Nat}{ih:Ih}{L:Nat}{cs:Cs}{G:Nat->Addr}{s:Shared}{E:Value->Shared->Prop}
theorem uP{i:Nat}{o B}(e:(a_ B<|bK Lc aJ).T.get i=some o)(hL:Lc<aJ.nx)(O:AO):
  (a_ B aJ).T.get i=some o/\Eqv (bK Lc<|V.im i O<|a_ B aJ) (V.im i O<|a_ B<|bK Lc aJ):=by
 refine xA (wu (o:=B) hL) λ _ q=>?_;have q1:=q i;have J:(bK Lc<|a_ B aJ).T.get i=some o:=q1.trans e;have g1:(bK Lc<|a_ B aJ).T.get i=if i=Lc then none else(a_ B aJ).T.get i:=TR.fW _ _ _
 have OH:i≠Lc:=λ z=>by rw[g1,if_pos z]at J;exact nn J
 rw[g1,if_neg OH]at J;refine⟨J,rfl,λ j=>?_⟩;show(((a_ B aJ).T.dL O i).del Lc).get j=((a_ B<|bK Lc aJ).T.dL O i).get j;rw[TR.fW,TR.bu,TR.bu];have q2:=q j;have g2:(bK Lc<|a_ B aJ).T.get j=if j=Lc then none else(a_ B aJ).T.get j:=TR.fW _ _ _
 rw[g2]at q2;by_cases h1:j=i
 .clear e q1 J g1;subst h1;rw[if_neg OH,if_pos rfl,if_pos rfl]
 .rw[if_neg h1,if_neg h1,q2]
theorem BE{o}{t}(hs:gW t=true)(h:jq L cs t v (a_ o<|bK Lc aJ)=some bk)(hL:Lc<aJ.nx):∃Xd,jq L cs t v (a_ o aJ)=some Xd/\Eqv (bK Lc Xd) bk:=by
 cases t with|l x=>exact aX h λ es J h=>xA (uP (dz J) hL<|.ns<|dL x v es) λ O q=>⟨_,congrArg (λ z=>bd (bd z Lr) λ es=>some<|V.im L (.ns<|dL x v es)<|a_ o aJ) O,sI h▸q⟩|b9 x=>exact aX h λ c J h=>aX h λ B e1 h=>aX h λ u e3 h=>xA (uP e1 hL<|.cell<|some v) λ O q=>⟨_,(congrArg (λ z=>bd z λ c=>bd ((a_ o aJ).T.get c) λ B=>bd (rK B) λ _=>some<|V.im c (.cell<|some v)<|a_ o aJ) J).trans<|(congrArg (λ z=>bd z λ B=>bd (rK B) λ _=>some<|V.im c (.cell<|some v)<|a_ o aJ) O).trans<|congrArg (λ z=>bd z λ _=>some<|V.im c (.cell<|some v)<|a_ o aJ) e3,sI h▸q⟩|tup _=>exact ff hs|bad=>exact ff hs
theorem CR{i:Nat}{o}(e:st.T.get Lc=some (.ns es))(k:i=Lc->∃z,o=.ns z):∃f8,(V.im i o st).T.get Lc=some (.ns f8):=by
 have g:(V.im i o st).T.get Lc=if Lc=i then some o else st.T.get Lc:=TR.bu o st.T i Lc
 by_cases h:Lc=i
 .exact xE (k h.symm) λ z q=>⟨z,g.trans<|(if_pos h).trans<|congrArg some q⟩
 .exact⟨es,g.trans<|(if_neg h).trans e⟩
theorem yE{t}(hs:gW t=true)(h:jq L cs t v st=some af)(e:st.T.get Lc=some (.ns es)):∃f8,af.T.get Lc=some (.ns f8):=by
 cases t with|l x=>exact aX h λ es B h=>sI h▸CR e λ _=>⟨_,rfl⟩|b9 x=>exact aX h λ c B h=>aX h λ O J h=>aX h λ u e3 h=>sI h▸CR e λ q=>nn ((congrArg rK<|sI<|(J.symm.trans<|congrArg st.T.get q).trans e).symm.trans e3:none=_)|tup _=>exact ff hs|bad=>exact ff hs
theorem UQ{M:IE->Prop}{e}(B:jN e=false)(k:∀elt t it ifs fr,M<|.comp elt t it ifs fr):M e:=by
 cases e<;>first|exact k _ _ _ _ _|exact ff B.symm
theorem Pf{M:PySem.Expr->Prop}{t}{J}(hp:mw t (.comp elt J it ifs fr)=true)(B:gV Z.nm sc t t'=true)(k:gW t=true->∀y p,gV Z.nm sc t (.Name y p)=true->M (.Name y p)):M t':=by
 cases t with|l x=>exact cy (M:=λ t'=>gV Z.nm sc (.l x) t'=true->M t') B (λ y p _ h=>k rfl y p h) B|b9 x=>exact cy (M:=λ t'=>gV Z.nm sc (.b9 x) t'=true->M t') B (λ y p _ h=>k rfl y p h) B|tup _=>exact ff hp|bad=>exact ff B
theorem NR(R:jp Z X gk X.an)(α:bB Z)(hE:jf Z w gk X.an n ih.E)(hK:yK Z w X gk n ih.K)(D8:∀{L cs elt t it ifs fr st r},ni X ih L cs (.comp elt t it ifs fr) st=some r->rG ih L cs elt t it ifs fr st=some r):Vx Z w X gk (n+1) (ni X ih):=by
 intro L cs t e st v ab qK hn h ha m sc t' e' O J hp A env G s pos r N S Q E q;refine UQ (M:=λ e=>ni X ih L cs e st=some (v,ab)->aE Z.nm gk X.an m sc e e'=true->mw t e=true->aD w A (exec (.Assign [t'] e' pos) env) Q E s) hn (λ elt tt it ifs fr h J hp=>?_) h J hp
 replace h:=D8 h
 cases m with|zero=>exact ff J|succ m=>
 refine kI J λ j8 gs fC pp J=>gJ J λ g J=>ZN J λ W8 xc jo J=>U7 J λ c1 c2 c3 c4 c5 c6 c7 c8=>Pf (M:=λ t'=>aD w A (exec (.Assign [t'] (.ListComp j8 [⟨W8,xc,jo,0⟩] fC pp) pos) env) Q E s) hp O λ hs y p O=>?_;refine xE (⟨_,rfl⟩:∃b,swapsWith (.ListComp j8 [⟨W8,xc,jo,0⟩] fC pp) (some<|.Name y p) pos.line env=pure b) λ b hb=>?_;cases b with
 |false=>
  have one:assignEach [.Name y p] env=[(false,assign (.Name y p) env)]:=rfl;refine wpAny_Assign_stores (rI R α hE hK h c1 c2 c3 c4 c5 c6 c8 r.down N S λ az u aq ak V=>?_) hb<|(ord _).VD _ _ _;rw[one];exact dH α ha O r.handled (N.kp ak.kp) ak.sr V λ ci aK=>q az ci (ak.trans S aK)
 |true=>
  rw[exec_Assign_Name_used _ _ _ _ hb];refine ah<|wpAny_standAt<|ah ?_;show wpAny _ A (do let _<-comprehension (.ListComp j8 [⟨W8,xc,jo,0⟩] fC pp) fC env _ (newList []) false (eval xc env) (some<|assign (.Name y p) env)) _ _ s;refine ah<|cN (rJ (use:=some<|assign (.Name y p) env) (Q:=λ _ s'=>Q .next s') R α hE hK h c1 c2 c3 c4 c5 c6 c8 r.down N S λ Lc aJ ys es ay s' D h1 h2 h3 h4 h5 B hD=>?_) (λ _ s' hq=>ax<|ax hq) λ _ _ e=>e;refine a8 (BE hs (h3▸h4▸ha) h2) λ Xd z1 z2=>?_;show wpAny _ A (assign (.Name y p) env<|.ref D) _ _ _;have V:VR Z ay (a_ (.list ys) aJ).nx s'.heap (.r aJ.nx) (.ref D):=by rw[<-hD];exact .r _ (bZ _)
  refine dH α z1 O r.handled (N.kp B.kp) B.sr V λ ci aK=>?_;have B2:=B.trans S aK;refine xE (yE (Lc:=Lc) (es:=es) hs z1 (by
   show(aJ.T.dL _ aJ.nx).get Lc=_;rw[TR.bu,if_neg<|Nat.ne_of_lt h2];exact h5)) λ f8 e'=>?_
  refine a8 (wC B2 S h1 e') λ m hm go=>?_;exact⟨m,hm,λ h' uD=>q ay _<|(go h' uD).1.eqv z2⟩
end
theorem iP:∀{l:List Nat},ri l=true->l.Nodup
 |[],_=>.nil|a::l,h=>by
  unfold ri at h;rw[u8]at h;simp only[Bool.and_eq_true,Bool.not_eq_true',decide_eq_false_iff_not]at h;exact List.nodup_cons.mpr ⟨h.1,iP h.2⟩
theorem pG{K:Type}[DecidableEq K]:∀(kvs acc:List<|K×Value),(acc.map (·.1)++kvs.map (·.1)).Nodup->merged acc kvs=acc++kvs
 |[],acc,_=>by simp[merged]|kv::kvs,acc,J=>by
  have e:stored acc kv.1 kv.2=acc++[kv]:=by
   unfold stored;rw[if_neg];intro h;refine a8 (List.any_eq_true.mp h) λ x hx B=>?_;have B:=ft B;rw[List.map_cons,List.nodup_append]at J;exact J.2.2 _ (bU hx) _ List.mem_cons_self B
  show merged (stored acc kv.1 kv.2) kvs=_;rw[e,pG kvs (acc++[kv]) (by simpa using J)];exact List.append_assoc _ _ _
variable{v5:List<|Option PySem.Expr}{Ge:List PySem.Expr}
section
variable{Z:Sy}{X:Env}{w:World}{gk:Str->AV->GK}{n m:Nat}{ih:Ih}{L:Nat}{cs:Cs}{G:Nat->Addr}{s:Shared}{E:Value->Shared->Prop}
theorem pf{e}{u}{k:Nat}(R:jp Z X gk X.an)(hp:pureE e=some u)(hc:aE Z.nm gk X.an k sc e e'=true)(N:a7 Z G st.nx L cs sc env)(S:SR Z w G st s.heap)(q:∀v' s',cH Z w G st s G st s'->VR Z G st.nx s'.heap u v'->Q v' s'):aD w A (eval e' env) Q E s:=by
 cases k with|zero=>exact ff hc|succ k=>
 cases e with|c v=>exact gA hc λ _ _ _ hc=>lP hc S R.x.z0 λ v' s' a V=>q v' s' a (sI hp▸V)|cJ x v=>exact cy hc λ _ _ hc=>i_ hc λ _ c1 c2=>mJ R.glob (bq c1) c2 (gq N.ok).2.2.2.1 N S.ready λ v' V=>q v' s (.refl S) (sI hp▸V G st.nx)|_=>exact nn hp
theorem osX{r:β}{a}{f:Nat->Option β}{P:Prop}(e:w_ a f=some r)(k:∀j,a=.s j->f j=some r->P):P:=Ld (M:=λ b=>a=b->P) e (λ j h z=>k j z h) rfl
def Dk(Z:Sy)(w:World)(G:Nat->Addr)(st:St)(s:Shared)(Q:List (Value×Value)->Shared->Prop)(es:List<|AV×AV)(J:List Nat):Prop:=
 ∀s' B kvs,cH Z w G st s G st s'->Carries (strKind pw w) B kvs->mh (SK Z) Z G st.nx s'.heap es kvs->kvs.map (·.1)=J.map Z.nm->Q B s'
theorem vt{k:Nat}(R:jp Z X gk X.an)(N:a7 Z G st.nx L cs sc env):∀(ks:List IE){vs:List IE}{v5:List<|Option PySem.Expr}{Ge:List PySem.Expr}{es:List<|AV×AV}{J:List Nat}{s:Shared}{Q:List (Value×Value)->Shared->Prop},sq ks vs=some es->v7 es=some J->
  aV (λ a=>qS<|aE Z.nm gk X.an k sc a) ks v5=true->aV (aE Z.nm gk X.an k sc) vs Ge=true->SR Z w G st s.heap->Dk Z w G st s Q es J->aD w A (evalPairs<|pairTrees v5 Ge env pos) Q E s:=by
 intro ks
 induction ks with
 |nil=>
  intro vs v5 Ge es J s Q h B c1 c2 S q;cases vs with|cons _ _=>exact nn h|nil=>exact uy c1 (uy c2<|pairTrees_nil_walk<|q s [] [] (.refl S) trivial (sI h▸.nil)<|congrArg (List.map Z.nm)<|sI<|(congrArg v7<|sI h).trans B)
 |cons a ks ih=>
  intro vs v5 Ge es J s Q h B c1 c2 S q;cases vs with|nil=>exact nn h|cons y vs=>
   refine q5 c1 λ b v5 c1 hj=>q5 c2 λ y' Ge c2 js=>t4 c1 λ b c1=>aX h λ ka e1 h=>aX h λ va e2 h=>aX h λ f8 e3 h=>osX ((congrArg v7<|sI h).trans B) λ j ej B=>aX B λ aK e4 B=>?_;refine pairTrees_cons_walk<|pf R e1 c1 N S λ kv aq ak mV=>pf R e2 c2 N ak.sr λ vv ci O bO=>ih e3 e4 hj js O.sr λ bM PA kvs cM C F M=>?_;exact q bM _ ((Z.nm j,vv)::kvs) ((ak.trans S O).trans S cM) ⟨oz ⟨j,ej,rfl⟩ mV,rfl,C⟩ (sI h▸.cons ⟨⟨j,ej,rfl⟩,bO.kp O.sr cM.kp⟩ F)<|(congrArg (Z.nm j:: ·) M).trans<|congrArg (List.map Z.nm)<|sI B
theorem As{f:IE->PySem.Expr->Bool}:∀{ks:List IE}{v5:List<|Option PySem.Expr},aV (λ a=>qS<|f a) ks v5=true->v5.all (·.isSome)=true:=by
 intro ks
 induction ks with|nil=>exactλ h=>uy h rfl|cons a ks ih=>exactλ h=>q5 h λ b l c1 c2=>t4 c1 λ b _=>(ih c2:l.all (·.isSome)=true)
theorem pairs_len:∀{ks vs:List IE}{es:List<|AV×AV},sq ks vs=some es->ks.length=vs.length/\es.length=ks.length:=by
 intro ks
 induction ks with
 |nil=>intro vs es h;cases vs with|nil=>exact⟨rfl,congrArg _ (sI h).symm⟩|cons _ _=>exact nn h
 |cons a ks ih=>intro vs es h;cases vs with|nil=>exact nn h|cons y vs=>exact aX h λ O B h=>aX h λ va J h=>aX h λ f8 e3 h=>⟨congrArg Nat.succ (ih e3).1,(congrArg _ (sI h).symm).trans<|congrArg Nat.succ (ih e3).2⟩
theorem Bq{ks vs}{k:Nat}(R:jp Z X gk X.an)(h:JO ks vs st=some (v,ab))(c1:aV (λ a=>qS<|aE Z.nm gk X.an k sc a) ks v5=true)(c2:aV (aE Z.nm gk X.an k sc) vs Ge=true)(N:a7 Z G st.nx L cs sc env)(S:SR Z w G st s.heap)(q:Kt Z w G st s Q v ab):aD w A (eval (.Dict v5 Ge pos) env) Q E s:=by
 refine aX h λ es e1 h=>aX h λ js e2 h=>AW h λ hl h=>kW h λ hd h=>xA (pairs_len e1) λ l1 l2=>?_;rw[db]at hl;have q:=q.eq h;have hsz:1358<=s.heap.objs.size:=cm S.ready;have O:s.heap.get? s.heap.objs.size=none:=ef _;refine xA (S.more<|bP s.heap {cls:=.type "dict",data:=.dict #[]}) λ jt ZV=>?_;have A1:cH Z w G st s G st {s with heap:=s.heap.push {cls:=.type "dict",data:=.dict #[]}}:=⟨⟨_,s.toks,rfl⟩,jt,ZV⟩;have J:(s.heap.push {cls:=.type "dict",data:=.dict #[]}).get? s.heap.objs.size=some {cls:=.type "dict",data:=.dict #[]}:=Heap.get?_push_size _ rfl;have hu:∀i o,st.T.get i=some o->G i≠s.heap.objs.size:=λ i o e z=>xE ((S.ob i o e).live) λ ob eb=>nn<|O.symm.trans<|(congrArg s.heap.get? z).symm.trans eb;have ex:({cls:=.type "dict",data:=.dict #[]}:Obj).ExactDict:=⟨rfl,rfl,rfl⟩;have fin:∀ci(a:cH Z w G st s G st ci),(∀i o,st.T.get i=some o->G i≠s.heap.objs.size)->(∀ay,(∀i,i<st.nx->ay i=G i)->DR Z w ay (st.nx+1) ci.heap es s.heap.objs.size)->Q (.ref s.heap.objs.size) ci:=λ ci a u H=>
  bc (a.adopt (o:=.dict es) S O u hsz H) λ ay x1 x2 B=>q ay _ _ B (x1▸.r _ (bZ _))
 cases v5 with
 |nil=>
  have k0:ks.length=0:=c_ c1;have v0:Ge=[]:=List.length_eq_zero_iff.mp<|(c_ c2).symm.trans<|l1.symm.trans k0;have s0:es=[]:=List.length_eq_zero_iff.mp<|l2.trans k0;exact v0▸wpAny_Dict_empty (fin _ A1 hu λ ay _=>s0▸.str [] (px _<|fc _ _ J ex rfl) .nil)
 |cons o v5=>
  refine wpAny_Dict_walk (knd:=strKind pw w) (As c1) ((c_ c1).symm.trans<|l1.trans<|c_ c2) (λ z=>nomatch z) (c_ c1▸l2▸ae hl (by exact bZ _)) ?_;refine vt (s:={s with heap:=s.heap.push {cls:=.type "dict",data:=.dict #[]}}) R N ks e1 e2 c1 c2 jt λ ci PA kvs aK C F M=>gv (h:=s.heap.push {cls:=.type "dict",data:=.dict #[]}) aK.kp J hu λ Mb Wy=>(cC kvs C (px _<|fc _ _ Wy ex rfl)<|λ h' D' B'=>?_);have hm:merged [] kvs=kvs:=pG kvs [] (M▸jB R.inj (iP hd):(kvs.map (·.1)).Nodup);refine xA ((A1.trans S aK).Ci (t:=ci.toks+PA.length) O Mb hsz ⟨_,Wy,λ z=>absurd (Value.type.inj z) (by exactλ h=>nomatch h)⟩ B'.extBut) λ A3 tk=>?_;exact fin _ A3 Mb λ ay same=>.str kvs (hm▸D')<|F.mono λ _ _ z=>⟨z.1,z.2.keeps (bW _) same tk⟩
end
section
variable{Z:Sy}{X:Env}{w:World}{gk:Str->AV->GK}{n m:Nat}{ih:Ih}{L:Nat}{cs:Cs}{G:Nat->Addr}{s:Shared}
@[elab_as_elim] theorem NG[BEq I][LawfulBEq I]{M:I->Prop}{a b:I}(h:(a==b)=true)(k:M b):M a:=beq_iff_eq.mp h▸k
theorem Kt.v9(q:Kt Z w G st s Q v ab)(e:ab=ac):Kt Z w G st s Q v ac:=e▸q
theorem EX{y c}{k}(B:sc.names.lookup c=none)(e:sc.names.lookup y=some k):(y==c)=false:=Bool.eq_false_iff.mpr λ q=>nn<|B.symm.trans<|beq_iff_eq.mp q▸e
theorem MQ(W:h_ Z w X gk)(B:jf Z w gk X.an n ih.E)(hT:z_ Z w gk X.an n ih.E)(oH:qD Z w gk X.an n ih.Es)(hL:qE ih.Es)(hC:IQ Z w X gk X.an n ih.C)(hF:ma X ih.C)(hK:yK Z w X gk n ih.K):
  jf Z w gk X.an (n+1) (ni X ih):=by
 intro L cs ir st v ab h k sc e hc A env G s r N S Q E q;cases k with|zero=>exact ff hc|succ k=>
 have O:=(gq N.ok).2.2.2;cases ir with|c u=>exact gA hc λ c _ _ hc=>lP hc S W.r.x.z0 (q.eq h G)|tup es=>exact iY hc λ l _ _ hc=>Cf oH hL h (aR hc) (aL hc) r.down N S q|list es=>exact EK hc λ l _ hc=>AQ oH hL h (aR hc) (aL hc) r.down N S q|dict ks vs=>exact EM hc λ k v _ hc=>i_ hc λ _ c1 c2=>Bq W.r h c1 c2 N S q|l x=>exact cy hc λ y _ hc=>AP h hc O.1 N S λ v' e V=>Kt.v9 q e G v' s (.refl S) V|b9 x=>exact cy hc λ y pos hc=>Bw h hc O.1 ((Bool.or_eq_true_iff.mp hc).elim (λ hc=>xA (cW hc) λ _ e=>EX O.2 e) λ hc=>xA (cW hc) λ _ e=>EX O.2 e) N S λ v' e V=>Kt.v9 q e G v' s (.refl S) V|cJ x u=>exact cy hc λ y _ hc=>i_ hc λ _ c1 c2=>mJ W.r.glob (bq c1) c2 O.1 N S.ready λ v' V=>q.eq h G v' s (.refl S) (V G st.nx)|dg a x=>exact ez hc λ v y _ hc=>oe hc λ c1 c2 c3 J=>E9 W.r B h c2 (bq c1) c3 J r.down N S q|bin op l r'=>exact t7 hc λ a o b _ hc=>i_ hc λ c1 c2 c3=>E6 W.r B h c1 c2 c3 r.down N S q|neg a=>exact fo hc λ o b _ hc=>NG (aL hc) (Df W.r B h (aR hc) r.down N S q)|not a=>exact fo hc λ o b _ hc=>NG (aL hc) (C9 W.r B h (aR hc) r.down N S q)|and es=>exact iF hc λ o l _ hc=>NG (aL hc) ((wV W.r B hT h (aR hc) r.down N S).1 q)|or es=>exact iF hc λ o l _ hc=>NG (aL hc) ((y8 W.r B hT h (aR hc) r.down N S).1 q)|cmp op l r'=>exact mP hc λ a os bs _ hc=>gJ hc λ o hc=>gJ hc λ b hc=>oe hc λ c1 c2 c3 J=>bc (wN W.r B h c1 c2 c3 (NH J) r.down N S) λ b _ h1 _=>h1 q|ite t a c=>exact t6 hc λ t' a' c' _ hc=>i_ hc λ c1 c2 c3=>(v_ B hT h c1 c2 c3 r.down N S).1 q|call f as=>exact i5 hc λ g l ks _ hc=>eO (aL hc) (oe (aR hc) λ c1 c2 _ c3=>Bx W B oH hC hF h c1 c2 c3 r N S q)|bT o x as=>exact i5 hc λ f l ks _ hc=>eO (aL hc) (ez (aR hc) λ o' y ap hc=>Fe hc λ c1 c2 c3 J c5 c6=>xQ W B oH hC hF h (bq c1) c2 c3 J c5 c6 r N S q)|sub a k'=>exact cU hc λ v i _ hc=>Cq W.r B h (aL hc) (aR hc) r.down N S q|oR a lo hi=>exact cU hc λ v s _ hc=>oJ hc λ l u sp _ hc=>FX (aL hc) (i_ (aR hc) λ c1 c2 c3=>Cv W.r B h c1 c2 c3 r.down N S q)|comp elt t it ifs fr=>exact kI hc λ j8 gs fC _ hc=>gJ hc λ g hc=>ZN hc λ t' xc jo hc=>U7 hc λ c1 c2 c3 J c5 c6 c7 c8=>rI W.r W.r.inj B hK h c1 c2 c3 J c5 c6 c8 r.down N S q|bad y=>exact nn h
theorem Ky(W:h_ Z w X gk)(B:jf Z w gk X.an n ih.E)(hT:z_ Z w gk X.an n ih.E)(J:jf Z w gk X.an (n+1)<|ni X ih):z_ Z w gk X.an (n+1) (ni X ih):=by
 intro L cs ir st v ab b h hb k sc e hc A env G s r N S Q E q;cases hs:IR ir with
 |false=>
  rw[tJ hc hs];refine ah<|J h hc r N S λ az u aq O V=>ah<|wpAny_standAt<|wpAny_holding ?_;exact fV W.r.x O.sr hb V λ t=>q az _ (O.kj S t)
 |true=>
  cases k with|zero=>exact ff hc|succ k=>
  cases ir with|not _=>exact fo hc λ o b _ hc=>NG (aL hc) (AD hT h (aR hc) r.down N S hb q)|and _=>exact iF hc λ o l _ hc=>NG (aL hc) ((wV W.r B hT h (aR hc) r.down N S (Q:=λ _ _=>True)).2 hb q)|or _=>exact iF hc λ o l _ hc=>NG (aL hc) ((y8 W.r B hT h (aR hc) r.down N S (Q:=λ _ _=>True)).2 hb q)|cmp _ _ _=>exact mP hc λ a os bs _ hc=>gJ hc λ o hc=>gJ hc λ b hc=>oe hc λ c1 c2 c3 c4=>bc (wN W.r B h c1 c2 c3 (NH c4) r.down N S (Q:=λ _ _=>True) (E:=E)) λ b' z _ h2=>h2 (sI ((congrArg (bf ab.T) z).symm.trans hb)▸q)|ite _ _ _=>exact t6 hc λ t' a' c' _ hc=>i_ hc λ c1 c2 c3=>(v_ B hT h c1 c2 c3 r.down N S (Q:=λ _ _=>True)).2 hb q|_=>exact ff hs
end
structure FI(Z:Sy)(w:World)(X:Env)(gk:Str->AV->GK)(n:Nat)(ih:Ih):Prop where
 E:jf Z w gk X.an n ih.E
 T:z_ Z w gk X.an n ih.E
 A:Vx Z w X gk n ih.E
 Es:qD Z w gk X.an n ih.Es
 EL:qE ih.Es
 C:IQ Z w X gk X.an n ih.C
 CS:ma X ih.C
 S:BM Z w gk X.an n ih.S
 W:Vd Z w X gk n ih.W
 F:N8 Z w X gk n ih.F
 K:yK Z w X gk n ih.K
theorem Fg{Z}{w}{X}{gk:Str->AV->GK}(W:h_ Z w X gk)(B:wZ Z w):∀n,FI Z w X gk n (ev X n)
 |0=>by
  constructor
  .intro _ _ _ _ _ _ h;exact nn h
  .intro _ _ _ _ _ _ _ h;exact nn h
  .intro _ _ _ _ _ _ _ _ _ h;exact nn h
  .intro _ _ _ _ _ _ h;exact nn h
  .intro _ _ _ _ _ _ h;exact nn h
  .intro _ _ _ _ _ _ h;exact nn h
  .intro _ _ _ _ _ h;exact nn h
  .intro _ _ _ _ _ _ h;exact nn h
  .intro _ _ _ _ _ _ _ h;exact nn h
  .intro _ _ _ _ _ _ _ _ h;exact nn h
  .intro _ _ _ _ _ _ _ _ _ h;exact nn h
 |n+1=>by
  have h:=Fg W B n;have e:jf Z w gk X.an (n+1) (ni X<|ev X n):=MQ W h.E h.T h.Es h.EL h.C h.CS h.K;exact⟨e,Ky W h.E h.T e,NR W.r W.r.inj h.E h.K λ h=>h,HX h.E h.Es,wt h.EL,NC W.r.inj h.S,yt,KR W B h.E h.T h.A h.S h.W h.F,Kl h.T h.S h.W,MC W.r.x W.r.inj h.S h.F,LQ W.r.x W.r.inj h.E h.T h.K⟩
section
variable{Z:Sy}{X:Env}{w:World}{G:Nat->Addr}{s:Shared}{n:Nat}{h:Heap}{E:Value->Shared->Prop}
inductive LR(Z:Sy)(G:Nat->Addr)(n:Nat)(h:Heap):AO->List Value->Prop
 |list {xs:List AV} {all:List Value}:br Z G n h xs all->xs.length<=10000->LR Z G n h (.list xs) all
 |seg {p q:List AV} {k lv:Nat} {ps qs:List Value}:br Z G n h p ps->br Z G n h q qs->Z.σ lv=(Z.τ k).length->p.length+q.length<=10000->LR Z G n h (.seg p k lv q) (ps++Z.τ k++qs)
theorem LR.keeps{o}{all}(L:LR Z G n h o all)(B:bh h h'):LR Z G n h' o all:=
 L.rec (λ V l=>.list (V.keeps (a9 _) (λ _ _=>rfl) B) l) λ v u l b=>.seg (v.keeps (a9 _) (λ _ _=>rfl) B) (u.keeps (a9 _) (λ _ _=>rfl) B) l b
theorem gO{x:β}{f:List AV->Option β}{g:List AV->Nat->Nat->List AV->Option β}{a:Addr}{o}{P:Prop}(e:GU o f g=some x)(R:OR Z w G n h a o)(k:∀all m,h.get? a=some (listOf all.toArray m)->LR Z G n h o all->P):P:=
 Ny (M:=λ o=>OR Z w G n h a o->(∀all m,h.get? a=some (listOf all.toArray m)->LR Z G n h o all->P)->P) e (λ _ _ R k=>a5 R λ ws m g W l=>k ws m g<|.list W l) (λ _ _ _ _ _ R k=>bA R λ ps qs m g v u l b=>k _ m g<|.seg v u l b) R k
theorem Ac{a:Addr}{o}{all:List Value}{m:Nat}(B:h.get? a=some (listOf all.toArray m))(L:LR Z G n h o all):OR Z w G n h a o:=
 L.rec (motive:=λ o all _=>h.get? a=some (listOf all.toArray m)->OR Z w G n h a o) (λ V l g=>⟨_,m,g,V,l⟩) (λ v u l b g=>⟨_,_,m,g,v,u,l,b⟩) B
theorem Yu{a b c:List Value}{x y:Nat}(h1:x=a.length)(h2:y=c.length)(B:x+y<=10000)(J:b.length<=10000):(a++b++c).length<=20000:=by rw[List.length_append,List.length_append];lia
theorem kU(H:fi Z X){o}{all:List Value}(L:LR Z G n h o all):all.length<=20000:=
 L.rec (λ V l=>V.1▸ae l (by simp)) λ{_ _ k _ _ _} v u _ b=>Yu v.1 u.1 b<|H.seg k
theorem br.ap(V:br Z G n h xs ws)(U:br Z G n h ys us):br Z G n h (fH.V.app xs ys) (ws++us):=hG xs ys▸br.app V U
theorem Fc(l:len xs+len ys<=4000):(V.app xs ys).length<=10000:=by rw[hG,List.length_append];rw[db,db]at l;exact ae (by assumption) (by decide)
theorem Iw{p q:List AV}(l:len p+len q+len ys<=4000):p.length+(V.app q ys).length<=10000:=by rw[hG,List.length_append];rw[db,db,db]at l;lia
theorem Iy{p q:List AV}(l:len p+len q+len ys<=4000):(V.app ys p).length+q.length<=10000:=by rw[hG,List.length_append];rw[db,db,db]at l;lia
theorem zZ{o o'}{all}(e:Fd ys o=some o')(L:LR Z G n h o all)(V:br Z G n h ys us):LR Z G n h o' (all++us):=
 L.rec (motive:=λ o all _=>Fd ys o=some o'->LR Z G n h o' (all++us)) (λ W _ e=>AW e λ hl e=>sI e▸.list (W.ap V) (Fc hl)) (λ v u l _ e=>AW e λ hl e=>sI e▸List.append_assoc _ _ us▸.seg v (u.ap V) l (Iw hl)) e
theorem GP{o o'}{all}(e:K9 ys o=some o')(L:LR Z G n h o all)(V:br Z G n h ys us):LR Z G n h o' (us++all):=
 L.rec (motive:=λ o all _=>K9 ys o=some o'->LR Z G n h o' (us++all)) (λ W _ e=>AW e λ hl e=>sI e▸.list (V.ap W) (Fc<|Nat.add_comm _ _▸hl)) (λ v u l _ e=>AW e λ hl e=>sI e▸List.append_assoc us _ _▸List.append_assoc us _ _▸.seg (V.ap v) u l (Iy hl)) e
theorem br.snoc{P:List Value->Prop}(V:br Z G n h (xs++[y]) ws):(∀B u,br Z G n h xs B->VR Z G n h y u->P (B++[u]))->P ws:=by
 induction xs generalizing ws P with|nil=>exactλ k=>V.sL λ u a=>k [] u .nil a|cons x xs ih=>exact V.Ah λ v B a b k=>ih b (P:=λ ws=>P (v::ws)) λ B u c d=>k (v::B) u (.cons a c) d
theorem eH:∀{xs:List AV}{p:List AV×AV},ik xs=some p->xs=p.1++[p.2]:=by
 intro xs
 induction xs with|nil=>exactλ e=>nn e|cons a l ih=>cases l with|nil=>exactλ e=>sI e▸rfl|cons b l=>exactλ e=>aX (show bd (ik (b::l)) (λ p=>some (a::p.1,p.2))=_ from e) λ r q e=>sI e▸congrArg (a:: ·) (ih q)
theorem yW{l:List AV}{a}{i k:Nat}(h:i+(l++[a]).length<=k):i+l.length<=k:=ae (Nat.add_le_add_left (List.length_append▸bL _ _) _) h
theorem pg{r:AV×AO}{o}{all}{P:List Value->Prop}(e:jL o=some r)(L:LR Z G n h o all)(k:∀B u,VR Z G n h r.1 u->LR Z G n h r.2 B->P (B++[u])):P all:=
 L.rec (motive:=λ o all _=>jL o=some r->(∀B u,VR Z G n h r.1 u->LR Z G n h r.2 B->P (B++[u]))->P all)
  (λ{xs all} V l e k=>aX e λ p q e=>(eH q▸V).snoc λ J u c d=>k J u ((congrArg Prod.fst<|sI e)▸d)<|(congrArg Prod.snd<|sI e)▸.list c (Nat.zero_add p.1.length▸yW (i:=0) (Nat.zero_add (p.1++[p.2]).length▸eH q▸l)))
  (λ{O q' k' lv ps qs} v u l b e k=>aX e λ p q e=>(eH q▸u).snoc (P:=λ qs=>P<|ps++Z.τ k'++qs) λ J x c d=>List.append_assoc _ _ _▸k (ps++Z.τ k'++J) x ((congrArg Prod.fst<|sI e)▸d) ((congrArg Prod.snd<|sI e)▸.seg v c l (yW<|eH q▸b))) e k
theorem vr{r:AV×AO}{o}{all}{P:List Value->Prop}(e:lu o=some r)(L:LR Z G n h o all)(k:∀B u,VR Z G n h r.1 u->LR Z G n h r.2 B->P (u::B)):P all:=
 L.rec (motive:=λ o all _=>lu o=some r->(∀B u,VR Z G n h r.1 u->LR Z G n h r.2 B->P (u::B))->P all)
  (λ{xs all} V l e k=>xB (M:=λ xs=>br Z G n h xs all->xs.length<=10000->P all) e (λ a xs e V l=>V.Ah λ u ws c d=>k ws u ((congrArg Prod.fst<|sI e)▸c)<|(congrArg Prod.snd<|sI e)▸.list d (d4 l)) V l)
  (λ{p q k' lv ps qs} v u l b e k=>xB (M:=λ p=>br Z G n h p ps->p.length+q.length<=10000->P (ps++Z.τ k'++qs)) e (λ a p e v b=>v.Ah (M:=λ ps=>P<|ps++Z.τ k'++qs) λ x ws c d=>k (ws++Z.τ k'++qs) x ((congrArg Prod.fst<|sI e)▸c)<|(congrArg Prod.snd<|sI e)▸.seg d u l (ae (Nat.add_le_add_right (bW _) _) b)) v b) e k
theorem BI(H:fi Z X)(j:Nat):BP Z w "list.append" (Ha j 100) (.r j):=by
 intro as st v ab h A G s us ov hh hu O V S Q E q;refine O.inR λ _=>aX h λ o ho h=>jc h (λ h=>Lg (M:=λ as=>br Z G st.nx s.heap as us->_) h (λ a h V=>aX h λ o' e h=>V.sL λ u V1=>gO e (S.ob j o ho) λ all m g L=>?_) V) λ h=>nn h;refine append_at (hsz:=ae (kU H L) (by decide)) g λ h' B J=>xA (S.im (o':=o') ho B λ tk=>Ac (m:=m+1) (all:=all++[u]) (J.trans (by rw[<-List.push_toArray]))<|(zZ e L<|.cons V1 .nil).keeps tk) λ S' K=>?_;exact q.eq h G _ _ ⟨⟨_,s.toks,rfl⟩,S',K⟩ .none
theorem Bi(H:fi Z X)(j:Nat):BP Z w "list.extend" (Ha j 101) (.r j):=by
 intro as st v ab h A G s us ov hh hu O V S Q E q;refine O.inR λ _=>aX h λ o ho h=>jc h (λ h=>nn h) λ h=>jc h (λ h=>nn h) λ h=>Lg (M:=λ as=>br Z G st.nx s.heap as us->_) h (λ a h V=>V.sL λ u V1=>jW h V1 λ k _ h=>aX h λ ys e1 h=>kW h λ _ h=>aX h λ o' e h=>gO e (S.ob j o ho) λ all m g L=>a5 (S.ob k _<|AL e1) λ ws m2 g2 W l2=>?_) V;have B:all.toArray.size+ws.toArray.size<=sizeLine:=ae (dK (kU H L) (W.1▸l2:ws.length<=10000)) (by decide);refine call_meets PySem.F.slot_list_extend ⟨_,g,rfl⟩ PySem.F.entry_list_extend (PySem.F.args_list_extend_2 _ _) (AutoSeq1.list_extend_list_list_0 (G j) all.toArray m (G k) ws.toArray m2 (extend_door B)<|ae (bL _ _) B) ⟨g,g2,?_⟩;have oF:(s.heap.update (G j)<|Obj.mapSeq λ x=>x++ws.toArray).get? (G j)=some (listOf (all++ws).toArray (if(all.toArray++ws.toArray).size==all.toArray.size then m else m+1)):=by
  rw[Heap.get?_update_self _ g (by rw[mapSeq_app];rfl),mapSeq_app,List.append_toArray]
 refine xA (S.im (o':=o') ho (Heap.SameBut.update s.heap (G j)<|Obj.mapSeq λ x=>x++ws.toArray) λ tk=>Ac oF<|(zZ e L W).keeps tk) λ J K=>?_;exact q.eq h G _ _ ⟨⟨_,s.toks,rfl⟩,J,K⟩ .none
theorem ME(p q:List Value)(y:Value):((p++y::q).toArray).eraseIdxIfInBounds p.length=(p++q).toArray:=kl_erase p q y
theorem Gc(S:SR Z w G st s.heap){o}{J:AV×AO}(ho:st.T.get j=some o){p r}{m:Nat}(g:s.heap.get? (G j)=some (listOf (p++u::r).toArray m))(L:LR Z G st.nx s.heap J.2<|p++r)(U:VR Z G st.nx s.heap J.1 u)(q:Kt Z w G st s Q J.1<|V.im j J.2 st):Q u {s with heap:=s.heap.update (G j)<|Obj.mapSeq λ xs=>xs.eraseIdxIfInBounds p.length}:=by
 have L':IsL s.heap (G j) (p++u::r).toArray m:=g;have oF:=L'.update<|λ xs=>xs.eraseIdxIfInBounds p.length;rw[ME]at oF;have B:Heap.SameBut (G j) s.heap (s.heap.update (G j)<|Obj.mapSeq λ xs=>xs.eraseIdxIfInBounds p.length):=Heap.SameBut.update ..;have tk:bh s.heap (s.heap.update (G j)<|Obj.mapSeq λ xs=>xs.eraseIdxIfInBounds p.length):=λ a ob ws m O hc hd=>(B.2 a λ z=>(S.ob j o ho).tup (z▸O) hc hd).trans O;exact xA (S.im (o':=J.2) ho B λ tk=>Ac oF<|L.keeps tk) λ S' K=>q _ _ _ ⟨⟨_,s.toks,rfl⟩,S',K⟩<|U.keeps (a9 _) (λ _ _=>rfl) tk
theorem K_(H:fi Z X)(j:Nat):BP Z w "list.pop" (Ha j 102) (.r j):=by
 intro as st v ab h A G s us ov hh hu O V S Q E q;refine O.inR λ _=>aX h λ o ho h=>jc h (λ h=>nn h) λ h=>jc h (λ h=>?_) λ h=>nn h;cases as with
 |nil=>
  refine aX (show bd (jL o) (λ p=>some (p.1,fH.V.im j p.2 st))=_ from h) λ r e h=>V.vH<|gO e (S.ob j o ho) λ all m g L=>pg (P:=λ all=>s.heap.get? (G j)=some (listOf all.toArray m)->all.toArray.size<=sizeLine->_) e L (λ p u U B g hz=>?_) g<|ae (kU H L) (by decide);have hs:(p++[u]).toArray.size-1=p.length:=congrArg (· -1) (List.length_append:(p++[u]).length=_);refine call_meets PySem.F.slot_list_pop ⟨_,g,rfl⟩ PySem.F.entry_list_pop (PySem.F.args_list_pop_1 _) (PySem.MeetsSeq.list_pop_last (G j) _ m u (by rw[hs];exact(List.getElem?_toArray ..).trans List.getElem?_concat_length) hz) ⟨g,?_⟩;exact hs.symm▸Gc (Q:=Q) (p:=p) (r:=[]) (m:=m) S ho g ((List.append_nil p).symm▸B) U (q.eq h)
 |cons a l=>
  refine Lg (M:=λ as=>br Z G st.nx s.heap as us->_) (show wE (a::l) (λ k=>ky k λ v z=>cj (Nat.beq v 0)<|pt (cj (wf z 0)<|bd (lu o) λ p=>some (p.1,fH.V.im j p.2 st))<|cj (wf z (-1))<|bd (jL o) λ p=>some (p.1,fH.V.im j p.2 st))=_ from h) (λ k h V=>V.sL λ x J=>gY h J λ v z t h=>nY h λ h=>jc h (λ h=>WB h λ h=>aX h λ r e h=>gO e (S.ob j o ho) λ all m g L=>?_) λ h=>WB h λ h=>aX h λ r e h=>gO e (S.ob j o ho) λ all m g L=>?_) V
  .refine vr (P:=λ all=>s.heap.get? (G j)=some (listOf all.toArray m)->all.toArray.size<=sizeLine->_) e L (λ p u U B g hz=>?_) g (ae (kU H L) (by decide));rw[show Z.σ 0+0=0 by rw[H.z0];rfl];refine call_meets PySem.F.slot_list_pop ⟨_,g,rfl⟩ PySem.F.entry_list_pop (PySem.F.args_list_pop_2 _ _) (PySem.MeetsSeq.list_pop_at (G j) (u::p).toArray m 0 t 0 u (by rfl) (iM (d5 p.length:0<(u::p).toArray.size)<|.inl rfl) (by rfl) hz) ⟨g,?_⟩;exact Gc (Q:=Q) (p:=[]) (r:=p) (m:=m) S ho g B U (q.eq h)
  .refine pg (P:=λ all=>s.heap.get? (G j)=some (listOf all.toArray m)->all.toArray.size<=sizeLine->_) e L (λ p u U B g hz=>?_) g (ae (kU H L) (by decide));rw[show Z.σ 0+ -1= -1 by rw[H.z0];rfl];have sz:(p++[u]).toArray.size=p.length+1:=List.length_append;refine call_meets PySem.F.slot_list_pop ⟨_,g,rfl⟩ PySem.F.entry_list_pop (PySem.F.args_list_pop_2 _ _) (PySem.MeetsSeq.list_pop_at (G j) (p++[u]).toArray m (-1) t p.length u (by rfl) (iM (sz▸bZ _)<|.inr ⟨by exact Int.le_refl _,by rw[sz];lia⟩) ((List.getElem?_toArray ..).trans List.getElem?_concat_length) hz) ⟨g,?_⟩;exact Gc (Q:=Q) (p:=p) (r:=[]) (m:=m) S ho g ((List.append_nil p).symm▸B) U<|q.eq h
end
section
variable{w:World}{s:Shared}{E:Value->Shared->Prop}
theorem pN{l:Addr}{all:List Value}{m:Nat}{Q:Array Value->Shared->Prop}(g:s.heap.get? l=some (listOf all.toArray m))(h:Q all.toArray s):wpAny (model prog w) A (Builtin.List.listItems<|.ref l) Q E s:=listItems_at g rfl h
theorem Gb{c:Prop}[Decidable c]{a b:Sem I}{Q:I->Shared->Prop}(hc:¬c)(h:wpAny (model prog w) A b Q E s):wpAny (model prog w) A (if c then a else b) Q E s:=if_neg hc▸h
theorem O9{c:Prop}[Decidable c]{a b:Sem I}{Q:I->Shared->Prop}(hc:c)(h:wpAny (model prog w) A a Q E s):wpAny (model prog w) A (if c then a else b) Q E s:=if_pos hc▸h
theorem qL{l k sl:Addr}{all:List Value}{m m2:Nat}{t1 t2:Tok}{Q:Unit->Shared->Prop}(g:s.heap.get? l=some (listOf all.toArray m))(g2:s.heap.get? k=some (listOf us.toArray m2))(OH:l≠k)(hs:s.heap.IsSliceOf sl (.int 0 t1) (.int 0 t2) .none)(hb:all.length+us.length<=50000)(q:∀h' m',Heap.SameBut l s.heap h'->h'.get? l=some (listOf (us++all).toArray m')->Q () {s with heap:=h'}):wpAny (model prog w) A (setItem (.ref l) (.ref sl)<|.ref k) Q E s:=by
 have O:s.heap.IsList l all.toArray:=⟨_,g,rfl,m,rfl⟩;have oG:s.heap.IsList k us.toArray:=⟨_,g2,rfl,m2,rfl⟩;refine bc (id hs) λ os J ZM ZJ=>?_;have B:s.TypeIs (.ref sl) "slice" :=⟨os,J,ZM⟩;unfold setItem
 try with_reducible refine wpAny_holding ?_
 first|refine ah (ax ?_)|skip
 refine ah<|wpAny_sequenceKey O.typeIs (by rfl) ?_;refine ah (wpAny_callSpecial?_slot (name:=Str.ofString "__setitem__") O.typeIs slot_list_setitem
  (wpAny_call_entry slot_list_setitem O.typeIs entry_list_setitem ?_<|args_list_setitem _ _ _))
 show wpAny _ _ (Builtin.List.listSubscript? (.ref sl)>>=_) _ _ s;refine ah ?_;unfold Builtin.List.listSubscript?;refine ah<|wpAny_specialOf B slice_no_index ?_;simp only[Option.isNone_none,if_true];refine ax ?_;show wpAny _ _ (typeOf (.ref sl)>>=_) _ _ s;refine ah<|wpAny_typeOf B ?_;refine Gb (by exactλ h=>nomatch h) ?_;rw[listSliceParts_eq];refine ah<|ah<|wpAny_field J ZJ (x:=.none) rfl<|ah<|wpAny_listPart .none ?_;refine Gb (show¬((rawPart none==rawInt 0)=true)from Bool.false_ne_true) ?_;refine ah<|wpAny_field J ZJ (x:=.int 0 t1) rfl<|ah<|wpAny_listPart (.int 0 t1) ?_;refine ah<|wpAny_field J ZJ (x:=.int 0 t2) rfl<|ah<|wpAny_listPart (.int 0 t2)<|ax ?_;have zw:Builtin.List.listSameRef (.ref l) (.ref k)=false:=beq_eq_false_iff_ne.mpr OH;refine Gb (zw▸λ h=>nomatch h) ?_;unfold Builtin.List.listAllItems;refine ah<|ah<|wpAny_typeOf oG.typeIs ?_;refine O9 (by rfl) ?_;refine ah<|wpAny_seqItems g2 rfl<|ax ?_;refine ah<|pN g ?_;refine ah<|wpAny_of_eq (sliceIndices_raw (some 0) (some 0) none all.toArray.size (by exactλ h=>nomatch h)) ?_;have ZP:sliceBounds (some 0) (some 0) none all.toArray.size=(0,0,1):=by
  simp[sliceBounds];rfl
 rw[ZP];refine O9 (by rfl) ?_;refine ah<|wpAny_rule ?_;have Sa:Builtin.List.listTooLong (all.toArray.size+us.toArray.size)=false:=by
  unfold Builtin.List.listTooLong;rw[List.size_toArray,List.size_toArray];exact decide_eq_false (by unfold sizeLine;lia)
 refine Gb (Sa▸λ h=>nomatch h) ?_;refine ah (listUpdate_at g rfl ?_ (by rw[List.size_toArray,sizeLine_eq];lia) ?_)
 .refine ah (wpAny_letGo ?_);have e:(all.toArray.extract 0 (Int.toNat 0)++us.toArray++all.toArray.extract (Int.toNat<|max 0 0) all.toArray.size)=(us++all).toArray:=by simp
  have ρ:=get?_update_seq g<|λ xs=>xs.extract 0 (Int.toNat 0)++us.toArray++xs.extract (Int.toNat<|max 0 0) xs.size;rw[e]at ρ;exact ax ⟨.none,rfl,ax<|q _ _ (Heap.SameBut.update ..) ρ⟩
 .simp[sizeLine_eq];lia
theorem L5{Z}{X}(H:fi Z X):wZ Z w:=by
 intro v o st fl ab h A G s u ov sl t1 t2 V O S hs Q E q;refine jW h O λ j hj h=>jW h V λ k hk h=>aX h λ ob ho h=>aX h λ ys hy h=>kW h λ Wj h=>aX h λ J e h=>gO e (S.ob j ob ho) λ all m g L=>a5 (S.ob k _<|AL hy) λ ws m2 g2 W l2=>?_;refine qL g g2 (λ z=>ff<|(NH Wj).symm.trans<|(S.inj j k _ _ ho (AL hy) z)▸Nat.beq_refl j) hs (ae (dK (kU H L) (W.1▸l2:ws.length<=10000)) (by simp)) λ h' m' B ρ=>?_;refine xA (S.im (o':=J) ho B λ tk=>Ac ρ<|(GP e L W).keeps tk) λ S' K=>?_;exact q _ ((sP h).2▸⟨⟨_,s.toks,rfl⟩,S',K⟩) (sP h).1.symm
end
section
variable{Z:Sy}{X:Env}{w:World}{G:Nat->Addr}{s:Shared}{n:Nat}{h:Heap}{E:Value->Shared->Prop}
theorem optN{v:Option Value}(x:jv Z G n h none v):v=none:=by cases v<;>first|rfl|exact x.elim
theorem XT{r:Option AV}{v:Option Value}{d}(x:jv Z G n h r v)(V:VR Z G n h d u):VR Z G n h (r.getD d) (v.getD u):=by cases r<;>cases v<;>first|exact V|exact x|exact x.elim
theorem xN{d:Addr}(h:1<d):(d==sysModules)=false:=beq_eq_false_iff_ne.mpr<|λ z=>absurd (z▸h) (by decide)
theorem Ie(H:fi Z X)(α:bB Z)(j:Nat):BP Z w "dict.pop" (OC X j 102) (.r j):=by
 intro as st v ab h A G s us ov hh hu O V S Q E q;refine O.inR λ _=>kW h λ _ h=>Of (M:=λ as=>br Z G st.nx s.heap as us->_) h (λ k d h V=>V.Cc λ u x B V2=>aX h λ o ho h=>Ow (M:=λ _=>_) h λ _ _ h'=>aX h' λ r e h'=>?_) V;have kp:(keyPart u).isSome=true:=gY h B λ _ _ _ _=>rfl;cases r with|some _=>exact nn h'|none=>cases tj H α (S.ob j o ho) B e with|gen K _ knd kvs i D J O=>exact call_meetsIn PySem.F.slot_dict_pop D.typeIs PySem.F.entry_dict_pop (PySem.F.args_dict_pop_3 _ _ _) (meets_dict_pop_default knd (G j) J (xN<|S.lo1 ho) kp x) (cC kvs D (optN O)<|q.eq h' G x _ (.tok S _) V2)|mix xs i a D hr J O=>exact ff<|((congrArg (λ u=>(keyPart u).isSome) hr).symm.trans kp:(keyPart<|.ref a).isSome=true)
theorem HN(H:fi Z X)(α:bB Z)(D:yI Z X)(j:Nat):BP Z w "dict.get" (Rb X j 103) (.g j):=by
 intro as st v ab h A G s us ov hh hu O V S Q E q;refine(VR.un O:ov=_)▸kW h λ _ h=>Of (M:=λ as=>br Z G st.nx s.heap as us->_) h (λ k d h V=>V.Cc λ u x J V2=>aX h λ es he h=>xA (D j es he) λ lo hd=>Ld (M:=λ _=>_) h λ _ h'=>aX h' λ r e h'=>?_) V;cases ti H α (hd w s.heap S.ready G st.nx) J e with|gen K _ knd kvs i B hk O=>exact call_meetsIn PySem.F.slot_dict_get B.typeIs PySem.F.entry_dict_get (PySem.F.args_dict_get_3 _ _ _) (meets_dict_get_default knd j hk (xN lo) x) ⟨_,B.mapOf,q.eq (x:=r.getD d) (ac:=st) (by cases r<;>exact h') G _ _ (.tok S _)<|XT O V2⟩|mix xs i a B hr hk O=>exact(Ay (M:=λ _ u=>u=.ref a->False) h J (λ _ _ _=>λ z=>nomatch z) hr).elim
def FH(Z:Sy)(X:Env):Prop:=∀q∈X.Um,(Txt.rfind (Z.nm q.1) (Z.nm q.2.1):Int)=q.2.2
theorem CL(H:fi Z X)(C:FH Z X)(k:Nat):BP Z w "str.rfind" (V7 X k 104) (.s k):=by
 intro as st v ab h A G s us ov hh J O V S Q E q;refine xE (VR.un O:∃t,ov=.str (Z.nm k) t) λ t z=>z▸kW h λ _ h=>Lg (M:=λ as=>br Z G st.nx s.heap as us->_) h (λ a h V=>V.sL λ u B=>Ay h B λ p t' h=>aX h λ z e h=>?_) V;have hp:(Nat.beq z.1 k&&Nat.beq z.2.1 p)=true:=List.find?_some (p:=λ q:Nat×Nat×Int=>Nat.beq q.1 k&&Nat.beq q.2.1 p) e;have hp:=fS hp;exact SC.rfind<|q.eq h G _ _ (.tok S _)<|.i'<|(bC hp.1▸bC hp.2▸C z (jb e)).trans (by rw[H.z0,Int.zero_add]:z.2.2=Z.σ 0+z.2.2)
theorem Dn(H:fi Z X)(α:bB Z)(D:yI Z X)(C:FH Z X)(B:∀x,X.bn x=100->Z.nm x="append")(n1:∀x,X.bn x=101->Z.nm x="extend")(n2:∀x,X.bn x=102->Z.nm x="pop")(J:∀x,X.bn x=103->Z.nm x="get")(O:∀x,X.bn x=104->Z.nm x="rfind"):Aa Z w X:=
 ⟨BI H,Bi H,K_ H,Ie H α,HN H α D,CL H C,B,n1,n2,J,O⟩
end
structure Fy(Z:Sy)(X:Env):Prop where
 own:∀P D l,lk D X.sub=some l->plainGet (KF P) D "__class__" =true/\hasDictIn (KF P) D=true/\findIn (KF P) (.ref D) "__class__" =some (some<|.builtin "object.__class__")/\
  specialIn (KF P) (.builtin "object.__class__") "__get__" =some (some<|.builtin "getset_descriptor.__get__")/\takesIn (KF P) (.builtin "object.__class__")=some true/\mroIn (KF P) D (.type "object")=some true
 one:∀P D l C l',lk D X.sub=some l->lk C X.sub=some l'->kitOne (KF P) (.ref D) (.ref C)=some (l.any<|Nat.beq C)
 prim:∀P C l,lk C X.sub=some l->∀T,T∈["NoneType","int","str","tuple"]->kitOne (KF P) (.type T) (.ref C)=some false
 UU:∀P k,k<4->kitOne (KF P) (.type "int") (.type<|Z.tn k)=some (Nat.beq k 0)/\kitOne (KF P) (.type "str") (.type<|Z.tn k)=some (Nat.beq k 1)/\
  kitOne (KF P) (.type "tuple") (.type<|Z.tn k)=some (Nat.beq k 2)/\kitOne (KF P) (.type "list") (.type<|Z.tn k)=some (Nat.beq k 3)
section
variable{Z:Sy}{X:Env}{w:World}{G:Nat->Addr}{s:Shared}{n:Nat}{h:Heap}{E:Value->Shared->Prop}
structure KV(Z:Sy)(X:Env)(w:World)(G:Nat->Addr)(st:St)(h:Heap)(v:AV)(u:Value):Prop where
 go:∃t H,KitX (KF w.params) u t H/\H h/\u≠.builtin "__main__.__loader__#opaque" /\∀c cv b,zp X st.T v c=some b->VR Z G st.nx h c cv->kitOne (KF w.params) t cv=some b
@[elab_as_elim] theorem DX{M:AV->Prop}{c}{b:Bool}{T}(h:zp X T v c=some b)(k1:∀C l,lk C X.sub=some l->UT X T v C=some b->M (.g C))(k2:∀k,k<4->VA T v k=some b->M (.ty k)):M c:=by
 cases c with|g C=>exact aX (show bd (lk C X.sub) (λ _=>UT X T v C)=_ from h) λ l e h=>k1 C l e h|ty k=>exact AK (show cj (Nat.blt k 4) (VA T v k)=_ from h) λ e h=>k2 k e h|_=>exact nn h
theorem DW{o}(h:rt o=true):GU o (λ _=>some ()) (λ _ _ _ _=>some ())=some ():=by cases o<;>first|rfl|exact ff h
theorem oy(O:Fy Z X){T}{H:Heap->Prop}(hT:T∈["NoneType","int","str","tuple"])(K:KitX (KF w.params) u (.type T) H)(hH:H h)(hu:u≠.builtin "__main__.__loader__#opaque")(h1:∀C b,UT X st.T v C=some b->b=false)(h2:∀k b,k<4->VA st.T v k=some b->kitOne (KF w.params) (.type T) (.type<|Z.tn k)=some b):KV Z X w G st h v u:=
 ⟨.type T,H,K,hH,hu,λ c cv b e B=>DX (M:=λ c=>VR Z G st.nx h c cv->kitOne (KF w.params) (.type T) cv=some b) e (λ C l J e2 B=>(VR.un B:cv=_)▸h1 C b e2▸O.prim w.params C l J T hT) (λ k J e2 B=>(VR.un B:cv=_)▸h2 k b J e2) B⟩
theorem Jm(O:Fy Z X)(S:SR Z w G st h)(V:VR Z G st.nx h v u){c0}{b0:Bool}(h0:zp X st.T v c0=some b0):KV Z X w G st h v u:=by
 cases v with
 |none=>exact V.Zd (oy O m0 kitx_none trivial (λ e=>nomatch e) (λ C b e=>(sI e).symm)<|λ k b _ e=>nn e)|i v o=>exact V.RS λ t=>oy O m1 kitx_int trivial (λ e=>nomatch e) (λ C b e=>(sI e).symm) (λ k b hk e=>sI e▸(O.UU w.params k hk).1)|s k=>exact xE (VR.un V:∃t,u=.str (Z.nm k) t) λ t z=>z▸oy O m2 kitx_str trivial (λ e=>nomatch e) (λ C b e=>(sI e).symm) (λ k b hk e=>sI e▸(O.UU w.params k hk).2.1)|t xs=>exact V.qT λ ws a o m ho hc hd hl=>oy O m3 kitx_tuple ⟨o,ho,hc⟩ (λ e=>nomatch e) (λ C b e=>(sI e).symm) (λ k b hk e=>sI e▸(O.UU w.params k hk).2.2.1)|r j=>
  refine V.inR λ hj=>DX (M:=λ _=>KV Z X w G st h (.r j)<|.ref<|G j) h0 (λ C l e1 J=>aX J λ o ho e=>aX e λ p hp e=>aX e λ o2 Vc e=>aX e λ es Wr e=>aX e λ l2 e3 e=>?_) λ k e1 J=>aX J λ o ho e=>kW e λ hl e=>?_
  .refine ib (S.ob j (.inst p.1 p.2)<|gx hp▸ho) λ hd hi ye=>ji (S.ob p.2 (.ns es)<|dz<|congrArg (λ z=>bd z Lr) Vc|>.trans Wr) λ od dG ep HC _=>eG (O.own w.params p.1 l2 e3) λ o1 o2 o3 o4 fy=>xA fy λ o5 o6=>?_;refine⟨.ref p.1,_,kitx_own (ox:=instObj p.1<|G p.2) (od:=od) o1 o2 o3 o4 o5 o6,⟨hi,rfl,rfl,HC⟩,(λ e=>nomatch e),λ c cv b e B=>?_⟩;refine DX (M:=λ c=>VR Z G st.nx h c cv->kitOne (KF w.params) (.ref p.1) cv=some b) e (λ C' l' f1 f2 B=>(VR.un B:cv=_)▸(O.one w.params p.1 l2 C' l' e3 f1).trans ?_) (λ k _ f2=>aX f2 λ o' oF f=>kW f λ hl _=>ff<|((congrArg rt<|(sI<|oF.symm.trans ho).trans<|gx hp).symm.trans hl:false=true)) B;exact(congrArg (λ z=>bd z λ o=>bd (ru o) λ p:Nat×Nat=>bd (st.T.get p.2) λ o=>bd (Lr o) λ _=>bd (lk p.1 X.sub) λ l=>some<|l.any<|Nat.beq C') ho|>.trans (congrArg (λ z=>bd z λ p:Nat×Nat=>bd (st.T.get p.2) λ o=>bd (Lr o) λ _=>bd (lk p.1 X.sub) λ l=>some<|l.any<|Nat.beq C') hp|>.trans
    (congrArg (λ z=>bd z λ o=>bd (Lr o) λ _=>bd (lk p.1 X.sub) λ l=>some<|l.any<|Nat.beq C') Vc|>.trans (congrArg (λ z=>bd z λ _=>bd (lk p.1 X.sub) λ l=>some<|l.any<|Nat.beq C') Wr|>.trans (congrArg (λ z=>bd z λ l:List Nat=>some<|l.any<|Nat.beq C') e3))))).symm.trans f2
  .refine gO (DW hl) (S.ob j o ho) λ all m g L=>⟨.type "list",_,kitx_list,⟨_,g,rfl⟩,(λ e=>nomatch e),λ c cv b e B=>?_⟩;exact DX (M:=λ c=>VR Z G st.nx h c cv->kitOne (KF w.params) (.type "list") cv=some b) e (λ C l e1 J=>aX J λ o' oF e=>aX e λ p hp e=>ff<|((congrArg rt<|(sI<|oF.symm.trans ho).symm.trans<|gx hp).symm.trans hl:false=true))
    (λ k e1 J B=>(VR.un B:cv=_)▸aX J λ o' oF e=>kW e λ _ e=>sI e▸(O.UU w.params k e1).2.2.2) B
 |_=>exact DX (M:=λ _=>_) h0 (λ _ _ _ e=>nn e)<|λ _ _ e=>nn e
end
section
variable{Z:Sy}{X:Env}{w:World}{G:Nat->Addr}{s:Shared}{n:Nat}{h:Heap}{E:Value->Shared->Prop}
theorem DE{K}{t c}{r}{B J b:Bool}(h1:kitOne K t c=some B)(h2:kitAny K t r=some J)(e:some (B||J)=some b):kitAny K t (c::r)=some b:=
 (congrArg (λ z=>match z with|some true=>some true|some false=>kitAny K t r|none=>none) h1).trans (by cases B with|true=>exact e|false=>exact h2.trans e)
theorem Hu{x}{t}{T}(go:∀c cv b,zp X T x c=some b->VR Z G n h c cv->kitOne (KF w.params) t cv=some b):∀{cs:List AV}{B:List Value}{b:Bool},TD X x T cs=some b->br Z G n h cs B->kitAny (KF w.params) t B=some b:=by
 intro cs
 induction cs with|nil=>exactλ e V=>V.vH e|cons c cs ih=>exactλ e V=>aX e λ b1 e1 e=>aX e λ b2 e2 e=>V.Ah λ cv B J O=>DE (go c cv b1 e1 J) (ih e2 O) e
theorem ocX{r:β}{l:List I}{f:I->List I->Option β}{P:Prop}(e:uC l f=some r)(k:∀a m,l=a::m->f a m=some r->P):P:=xB (M:=λ m=>l=m->P) e (λ a m h z=>k a m z h) rfl
theorem Lj{o:Obj}{c}{d}(h1:o.cls=c)(h2:o.data=d):o=⟨c,o.2,d,o.4⟩:=h1▸h2▸rfl
theorem RN(O:Fy Z X)(e:NJ X as st=some (v,ab))(S:SR Z w G st s.heap)(V:br Z G st.nx s.heap as us)(q:Kt Z w G st s Q v ab):aD w A (call (.builtin "isinstance") us) Q E s:=
 Of (M:=λ as=>br Z G st.nx s.heap as us->_) e (λ x c e V=>V.Cc λ u cv V1 J=>aX e λ b B e=>jc B
  (λ B=>Ot (M:=λ c=>VR Z G st.nx s.heap c cv->_) B (λ cs B J=>J.qT λ ws a o m ho hc hd W=>ocX B λ c0 _ z B=>aX ((congrArg (TD X x st.T) z).symm.trans B) λ b0 ZP _=>
   cI (Jm O S V1 ZP).go λ t H K hH hu go=>kia_tup K (mL S.ready) hH (ho.trans<|congrArg some<|Lj hc hd) (Hu go B W) hu λ tk=>q.eq e G _ _ (.tok S tk)<|.b b) J)
  λ B=>cI (Jm O S V1 B).go λ t H K hH hu go=>kia_one K (mL S.ready) hH (go _ _ _ B J) hu λ tk=>q.eq e G _ _ (.tok S tk)<|.b b) V
theorem ID(H:fi Z X){o}{all:List Value}{x}{t:Tok}(L:LR Z G n h o all)(e:Dw o=some x):VR Z G n h x (.int all.length t):=
 L.rec (motive:=λ o all _=>Dw o=some x->VR Z G n h x (.int all.length t)) (λ V _ e=>sI e▸.i' (by rw[H.z0,Int.zero_add,db,V.1];rfl))
  (λ{p q k lv ps qs} v u l _ e=>sI e▸.i' (by rw[l,db,db,v.1,u.1,List.length_append,List.length_append];show((ps.length+(Z.τ k).length+qs.length:Nat):Int)=((Z.τ k).length:Int)+((ps.length+qs.length:Nat):Int);lia)) e
theorem LI(H:fi Z X)(e:wR as st=some (v,ab))(S:SR Z w G st s.heap)(V:br Z G st.nx s.heap as us)(q:Kt Z w G st s Q v ab):aD w A (call (.builtin "len") us) Q E s:=
 Lg (M:=λ as=>br Z G st.nx s.heap as us->_) e (λ x e V=>V.sL λ u B=>jc e
  (λ e=>Ot (M:=λ c=>VR Z G st.nx s.heap c u->_) e (λ xs e B=>B.qT λ ws a o m ho hc hd W=>AW e λ hb e=>PyProof.Rows.len_tuple ⟨_,ho,hc,m,hd⟩ (by have:=W.1;rw[db]at hb;rw[List.size_toArray];lia)<|q.eq e G _ _ (.tok S _)<|.i' (by rw[H.z0,Int.zero_add,db,W.1];rfl)) B)
  λ e=>jW e B λ j _ e=>aX e λ o ho e=>aX e λ x hx e=>gO hx (S.ob j o ho) λ all m g L=>Calls.call_len_list ⟨_,g,rfl,m,rfl⟩ (by have:=kU H L;rw[List.size_toArray];lia)<|q.eq e G _ _ (.tok S _)<|ID H L hx) V
theorem LB(H:fi Z X)(hh:A.handled=none)(e:zT X as st=some (v,ab))(S:SR Z w G st s.heap)(V:br Z G st.nx s.heap as us)(q:Kt Z w G st s Q v ab):aD w A (call (.builtin "max") us) Q E s:=by
 refine Of (M:=λ as=>br Z G st.nx s.heap as us->_) e (λ a c e V=>V.Cc λ u cv V1 V2=>aX e λ b B e=>?_) V;refine gY (M:=λ a u=>(match(generalizing:=false) b with|true=>some (c,st)|false=>some (a,st))=some (v,ab)->aD w A (call (.builtin "max") [u,cv]) Q E s) B V1 (λ va O ta B e=>gY (M:=λ c cv=>(match(generalizing:=false) b with|true=>some (c,st)|false=>some (.i va O,st))=some (v,ab)->aD w A (call (.builtin "max") [.int (Z.σ va+O) ta,cv]) Q E s) B V2 (λ vc oc tc B e=>max_two_ints hh λ h' tk hk=>?_) e) e;have hb:=iw H B;refine xA (S.more hk) λ J K=>?_;clear B;cases b with|true=>exact if_pos (ft hb.symm)▸q.eq e G _ _ ⟨⟨h',tk,rfl⟩,J,K⟩ (.i _ _ _)|false=>exact if_neg (of_decide_eq_false hb.symm)▸q.eq e G _ _ ⟨⟨h',tk,rfl⟩,J,K⟩ (.i _ _ _)
theorem Kr(k2:Z.tn 2="tuple"):NV Z w:=by
 intro k as st v ab e A G s us hh hu V S Q E q;refine nY e λ e=>k2.symm▸Lg (M:=λ as=>br Z G st.nx s.heap as us->_) e (λ a e V=>V.sL λ u O=>jW e O λ j _ e=>aX e λ xs e1 e=>a5 (S.ob j _<|AL e1) λ ws m g W l=>?_) V;refine call_tuple_list ⟨_,g,rfl,m,rfl⟩ (λ h' hk=>?_)<|ae (W.1▸l:ws.length<=10000) (by decide);have B:∀b o,s.heap.get? b=some o->(h'.push {cls:=.type "tuple",data:=.seq ws.toArray}).get? b=some o:=λ b o e=>bP _ _ _ _<|hk b o e;refine xA (S.more B) λ J K=>q.eq e G _ _ ⟨⟨_,s.toks,rfl⟩,J,K⟩ ?_;exact .t xs ws _ _ 0 (Heap.get?_push_size _ rfl) rfl rfl W.1 λ i x y e f=>(W.2 i x y e f).keeps (a9 _) (λ _ _=>rfl) λ a o _ _ z _ _=>B a o z
end
variable{ks:List Int}{R:I->β->Prop}{OB:List Int}
section
variable{Z:Sy}{X:Env}{w:World}{G:Nat->Addr}{s:Shared}{n:Nat}{h:Heap}{E:Value->Shared->Prop}
theorem OJ{r:β}{a}{f:Nat->Int->Option β}{P:Prop}(e:ky a f=some r)(k:∀v o,a=.i v o->f v o=some r->P):P:=Ow (M:=λ b=>a=b->P) e (λ v o h z=>k v o z h) rfl
theorem RW{w p}{k:Int}(r:IK Z (.i w p) k):k=Z.σ w+p:=b8 r λ v o z e=>by cases z;exact e
theorem D3(H:fi Z X){v:Nat}{o:Int}{l}(F:F2 (IK Z) l ks):∀{l':List AV},ks.Pairwise (· <= ·)->T0 X (.i v o) l=some l'->∃v5,F2 (IK Z) l' v5/\v5.Perm ((Z.σ v+o)::ks)/\v5.Pairwise (· <= ·):=by
 induction F with|nil=>exactλ _ e=>sI e▸(cC ([Z.σ v+o]) (.cons ⟨v,o,rfl,rfl⟩ .nil) (.refl _)<|List.pairwise_singleton _ _)|@cons c k l ks r F ih=>
  refineλ hp e=>xA (List.pairwise_cons.mp hp) λ p1 p2=>OJ (a:=c) (show ky c (λ w p=>bd (TW X v o w p) λ b=>match b with|true=>some (.i v o::c::l)|false=>bd (T0 X (.i v o) l) λ l'=>some (c::l'))=_ from e) λ w p z e=>aX e λ b hb e=>?_;have hb:=iw H hb;have B:=RW<|z▸r;cases b with
  |true=>
   have le:Z.σ v+o<=k:=B▸Int.le_of_lt (ft hb.symm);exact sI e▸(cC ((Z.σ v+o)::k::ks) (.cons ⟨v,o,rfl,rfl⟩<|.cons r F) (.refl _)<|List.pairwise_cons.mpr ⟨List.forall_mem_cons.mpr ⟨le,λ x hx=>cX le<|p1 x hx⟩,hp⟩)
  |false=>
   have le:k<=Z.σ v+o:=B▸Int.not_lt.mp (of_decide_eq_false hb.symm);exact aX e λ l2 O e=>bc (ih p2 O) λ k2 i1 J i3=>sI e▸(cC (k::k2) (.cons r i1) ((J.cons k).trans<|.swap _ _ _)<|List.pairwise_cons.mpr ⟨λ x hx=>(bG<|J.mem_iff.mp hx).elim (λ z=>z▸le)<|p1 x,i3⟩)
theorem oQ(H:fi Z X):∀{xs ys:List AV},il X xs=some ys->∃ks ns,F2 (IK Z) xs ks/\F2 (IK Z) ys ns/\ns.Perm ks/\ns.Pairwise (· <= ·):=by
 intro xs
 induction xs with|nil=>exactλ e=>sI e▸(fN ([]) ([]) (.nil) (.nil) (.refl _)<|.nil)|cons a l ih=>exactλ e=>OJ (a:=a) (f:=λ _ _=>bd (il X l) λ ks=>T0 X a ks) e λ v o z e=>aX e λ y B e=>cI (ih B) λ k n i1 J O i4=>bc (D3 H J i4<|z▸e) λ m j1 j2 j3=>(fN _ m (.cons ⟨v,o,z,rfl⟩ i1) j1 (j2.trans<|O.cons _) j3)
theorem Hz(F:F2 (IK Z) ys ks):∀{out:List Value},IntsAre out ks->br Z G n h ys out:=by
 induction F with
 |nil=>intro out α;cases α;exact .nil
 |cons r _ ih=>intro out α;cases α with|cons _ t α=>exact b8 r λ v o z e=>.cons (z▸.i' e)<|ih α
theorem B_(F:F2 (IK Z) xs ks):∀{ws:List Value},br Z G n h xs ws->IntsAre ws ks:=by
 induction F with|nil=>exactλ V=>V.vH .nil|cons r _ ih=>exactλ V=>V.Ah λ w ws a b=>b8 r λ v o z e=>VR.RS (M:=λ w=>IntsAre (w::ws) _) (z▸a) λ t=>e▸.cons _ t (ih b)
theorem Wp{i:Int}{v}(h:(intKind pw w).is i v=true):∃t,v=.int i t:=by
 cases v<;>first|exact ff h|exact⟨_,congrArg (Value.int · _)<|beq_iff_eq.mp h⟩
theorem Hy:∀{acc:List Value}{ks:List Int},acc.length=ks.length->(∀(j:Nat)(v:Value),acc[j]?=some v->∃i,ks[j]?=some i/\(intKind pw w).is i v=true)->IntsAre acc ks:=by
 intro acc
 induction acc with|nil=>intro ks l _;exact eU l.symm▸.nil|cons v acc ih=>intro ks l hv;cases ks with|nil=>exact nomatch l|cons k ks=>exact a8 (hv 0 v rfl) λ i e hi=>xE (Wp hi) λ t z=>z▸sI e▸.cons _ t (ih (Nat.succ.inj l) λ j u e=>hv (j+1) u e)
theorem F2.hd{a:I}{l:List I}{k:List β}(x:F2 R (a::l) k):∃b,R a b:=by
 cases x with|cons r _=>exact⟨_,r⟩
theorem Hs{es:List<|AV×AV}{kvs:List<|Int×Value}(F:mh (IK Z) Z G n h es kvs):∀{ks:List Int},F2 (IK Z) (es.map (·.1)) ks->kvs.map (·.1)=ks:=by
 induction F with
 |nil=>intro ks ρ;cases ρ;rfl
 |cons a _ ih=>intro ks ρ;cases ρ with|cons r ρ=>exact ih ρ▸congrArg (· ::_) (b8 a.1 λ v o z e=>e.trans (RW<|z▸r).symm)
theorem DR.ints{es:List<|AV×AV}{d:Addr}(R:DR Z w G n h es d)(ρ:F2 (IK Z) (es.map (·.1)) ks):∃kvs,h.DictOf (intKind pw w) d kvs/\mh (IK Z) Z G n h es kvs:=by
 cases es with|nil=>exact⟨[],px _<|DR.empty R,.nil⟩|cons p l=>cases R with|int kvs D F=>exact⟨kvs,D,F⟩|str kvs D F=>exact a8 (F2.hd (R:=λ(p:AV×AV)(q:Str×Value)=>SK Z p.1 q.1/\VR Z G n h p.2 q.2) F) λ b r _=>xE (F2.hd ρ) λ i g=>b8 g λ v o z _=>a8 r λ j z' _=>nomatch z.symm.trans z'|mix xs D F=>exact a8 (F2.hd (R:=λ(p:AV×AV)(q:(Str×List Str)×Value)=>MK Z p.1 q.1/\VR Z G n h p.2 q.2) F) λ b r _=>xE (F2.hd ρ) λ i g=>b8 g λ v o z _=>b8 r λ j B z' _=>nomatch z.symm.trans z'
@[elab_as_elim] theorem srE{M:AO->Prop}{o}(e:u9 X o=some ys)(k1:∀xs,xs.length<=60->il X xs=some ys->M (.list xs))(k2:∀es,es.length<=60->il X (es.map (·.1))=some ys->M (.dict es)):M o:=by
 cases o with|list xs=>exact AW (show cj (Nat.ble (len xs) 60) (il X xs)=_ from e) λ l e=>k1 xs (db xs▸l) e|dict es=>exact AW (show cj (Nat.ble (len es) 60) (il X<|es.map (·.1))=_ from e) λ l e=>k2 es (db es▸l) e|_=>exact nn e
theorem oP{D:Addr}{out:List Value}{ns:List Int}{m:Nat}(S:SR Z w G st s.heap)(O:cH Z w G st s G st ci)(J:s.heap.get? D=none)(ge:1358<=D)(he:ci.heap.get? D=some (listOf out.toArray m))(F:F2 (IK Z) ys ns)(α:IntsAre out OB)(p:ns.Perm ks)(s1:ns.Pairwise (· <= ·))(p':OB.Perm ks)(s2:OB.Pairwise (· <= ·))(l:ks.length<=60)(e:new (.list ys) st=some (v,ab))(q:Kt Z w G st s Q v ab):Q (.ref D) ci:=by
 have BS:OB=ns:=List.Perm.eq_of_pairwise (le:=(· <= ·)) (λ a b _ _ h1 h2=>Int.le_antisymm h1 h2) s2 s1<|p'.trans p.symm;refine bc (O.adopt (o:=.list ys) S J (λ i o e z=>xE ((S.ob i o e).live) λ ob eb=>nn<|J.symm.trans<|z▸eb) ge λ ay same=>⟨out,m,he,Hz F<|BS▸α,ae (F.length▸p.length_eq▸l) (by simp)⟩) λ ay x1 x2 B=>?_;exact q.eq e ay _ _ B<|x1▸.r _ (bZ _)
theorem Ao(H:fi Z X)(hh:A.handled=none)(e:iG X as st=some (v,ab))(S:SR Z w G st s.heap)(V:br Z G st.nx s.heap as us)(q:Kt Z w G st s Q v ab):aD w A (call (.builtin "sorted") us) Q E s:=by
 refine Lg (M:=λ as=>br Z G st.nx s.heap as us->_) e (λ a e V=>V.sL λ u V1=>jW e V1 λ j _ e=>aX e λ o ho e=>aX e λ ys B e=>srE (M:=λ o=>st.T.get j=some o->_) B (λ xs hb B ho=>?_) (λ es hb B ho=>?_) ho) V
 .refine cI (oQ H B) λ ks ns F ρ p s1=>a5 (S.ob j _ ho) λ ws m g W l=>sorted_ints (vs:=ws) ⟨_,g,rfl,m,rfl⟩ (B_ F W) (eh (W.1▸hb:ws.length<=60) (by simp)) λ out OB a1 a2 a3=>?_;refine xE (sortedAll_at s.heap ws out) λ e' ZH=>xA (S.more<|λ b o e=>sortedAll_old (vs:=ws) (out:=out) e) λ S' K=>?_;exact oP (ci:={s with heap:=sortedAll s.heap ws out}) S ⟨⟨_,s.toks,rfl⟩,S',K⟩ (Do<|bW _) (de<|cm S.ready) (ZH.trans<|congrArg (λ a=>some<|listOf a e') (Array.toArray_toList (xs:=out)).symm) ρ a1 p s1 a2 a3 (F.length▸hb) e q
 .refine cI (oQ H B) λ ks ns F ρ p s1=>a8 ((show DR Z w G st.nx s.heap es (G j)from S.ob j _ ho).ints F) λ kvs D KF=>xE D.dictAt λ ep e1=>?_;have hk:kvs.length<=60:=KF.length▸hb;have keys:=Hs KF F;refine Calls.call_function_entry kind_sorted plain_sorted entry_sorted (args_sorted1 _) ?_;unfold Builtin.«sorted»;refine wpAny_bind (m:=checkCount "sorted" 1 1 _)<|ax<|ah<|kdu_collect (kdl_dict (knd:=intKind pw w) (kvs:=kvs) (ep:=ep)<|xN<|S.lo1 ho) hh e1 (by rw[sizeLine_eq];exact ae hk (by simp)) λ h' tk acc J Sn=>?_;have al:acc.toList.length=kvs.length:=Array.length_toList.trans Sn.1;have I0:IntsAre acc.toList ks:=keys▸Hy (w:=w) (al.trans (List.length_map _).symm) λ j v e=>b8 (Sn.2 j v<|Array.getElem?_toList.symm.trans e) λ i x e hi=>⟨i,List.getElem?_map.trans<|congrArg _ e,hi⟩;have O:acc.toList.length<=60:=al▸hk;refine ah<|wpAny_newList ?_ (by rw[sizeLine_eq];exact ae O (by simp));have Zu:(h'.push {cls:=.type "list",data:=.seq acc.toList.toArray}).get? h'.objs.size=some (seqObj "list" acc.toList.toArray 0):=Heap.get?_push_size _ rfl;refine ah<|wpAny_holding<|wpAny_call_entry slot_list_sort ⟨_,Zu,rfl⟩ entry_list_sort (list_sort_tree Zu I0 (eh O (by simp)) λ out OB a1 a2 a3=>⟨_,rfl,ax ⟨_,rfl,?_⟩⟩)<|args_list_sort _;refine xE (sortedHeap_at (vs:=acc.toList) (out:=out) Zu) λ e' ZH=>?_;have Wi:∀b o,s.heap.get? b=some o->(sortedHeap (h'.push {cls:=.type "list",data:=.seq acc.toList.toArray}) h'.objs.size acc.toList out).get? b=some o:=λ b o e=>
   (sortedHeap_old (dI<|dJ<|J b o e)<|(size_push' h' _).symm▸fh (dJ<|J b o e)).trans (bP _ _ _ _<|J b o e)
  refine xA (S.more Wi) λ S' K=>?_;exact oP (ci:={s with heap:=sortedHeap (h'.push {cls:=.type "list",data:=.seq acc.toList.toArray}) h'.objs.size acc.toList out,toks:=tk}) S ⟨⟨_,tk,rfl⟩,S',K⟩ (Option.eq_none_iff_forall_ne_some.mpr λ o e=>absurd (dJ<|J _ _ e)<|Nat.lt_irrefl _) (cm<|S.ready.keeps J) (ZH.trans<|congrArg (λ a=>some<|listOf a e') (Array.toArray_toList (xs:=out)).symm) ρ a1 p s1 a2 a3 (F.length▸(List.length_map _).symm▸hb) e q
theorem U1{gk:Str->AV->GK}{an:Nat->Bool}(R:jp Z X gk an)(O:Fy Z X):Oe Z w X:=by
 intro k as st v ab e A G s us hh B V S Q E q;refine jc e (λ e=>nY e λ e=>?_) λ e=>jc e (λ e=>nY e λ e=>?_) λ e=>jc e (λ e=>nY e λ e=>?_) λ e=>nY e λ e=>?_
 .exact R.bn0.symm▸LI R.x e S V q
 .exact R.bn1.symm▸RN O e S V q
 .exact R.bn2.symm▸Ao R.x hh e S V q
 .exact R.bn6.symm▸LB R.x hh e S V q
end
def Dc:TR Str:=.ofN (List.map Str.ofString ["","Stack","Queue","Line","__init__","self","number","count","blessed","weak","is_destroyed","is_freed","value","Thing","magic","items","tied","sub","captures","builtin","package","main","name","scalar","array","hash","code","target","is_weak","limits","last","zero","next_number","new_scalar","Scalar","new_array","Array","new_code","Code","new_glob","Glob","x","isinstance","get","int","number_text","Ref","ref_text","counter","values","fresh","member","value_of","drop","size","heap","check_room","len","extend","fresh_scalars","drop_member","pop","members","run","thing","let_go","save","let_go_of","elem","helem","pad","slot","match","tiedelem","tiedkey","mark","saves","UNDOERS","keep","store","note","args","want","line","stash","nodes","lvs","statements","funcs","operators","out","err","frames","patterns","steps","methods","call_code","compile_text","node","evaluate","SCALAR","LIST","todo","part","rv2a","rv2h","list","cond","follows_any","members_in","found","listed_members","members_within","truth","value_in","array_members","hash_members","find_array","::ISA","to_text","item","path","rows","parents_of","at","parent","append","line_of_package","other","UNIVERSAL","code_of","::","generation","table","find","key","tuple","search_line","rfind","text","invocant","above","class_of","told","cut_name","whole_line","autoload_in","NEVER_AUTO","DESTROY","\x69mport","unimport","block","expr","if","while","dowhile","cfor","foreach","bare","return","num","str","pads","mys","globs","bin","un","and","or","dor","xor","range","repeat","interp","stringify","call","method","assign","doblock","map","grep","sort","func","subst","trans","local","aassign","refgen","evalstr","Frame","piled","weights","UNTOLD","known","high","about","whole","one","subdef","CALLING","max","WEIGHTS","OTHER_WEIGHT","WeighedCode","tree_weights","frame","CallFrame","code_weights","CALL_COST","outer","piled_behind","weights_seen","LEAF_COST","MOST_PILED","stmt","count_step","start","statement_value","VOID_frames","settle","blank_value","run_statement","kept_value","scalar_for","hold","glob_of","ARGS_NAME","main::_","array_of","lay_args","copied_result","run_body","leave","depth","check_pile","check_call","word","called_frame","entered_value","call_with","call_args","ASKED_ITSELF","rv2s","method_name","method_for","behind","Hash","Tie","holder","held","kept_behind","things","sorted","destroy","places","empties","take","put_off","put","old","dying","in_order","finish","free","gone","held_by","empty_out","width","kind","A","H","new_hash","is_gone","made_thing","pad_thing","S","lv_of","need_array","push","plain_values","tied_size","push_values","unshift","unshift_values","pop_value","glob","new","swap_held","bless_thing","_law_blessed","way","push_func","unshift_func","pop_func","hears","Limits","Heap","Run","Counter","Stash","said","body","_law_said","_law_body","node_scalar","node_list","eval_method","lv_pad_scalar","do_expr_stmt","MethodCache","_law_subs","Stack::new","Stack::put","Stack::take","Queue::put","set_code","numbers","made","_law_asked","taken","due","heard","ended","k","is_back","script","urn","_law_ready","turn","is_told","_law_deed","_law_is_right","place","Stack::","ISA","Stack::ISA","Queue::","Queue::new","Queue::take","Queue::ISA","Line::","Line::new","Line::put","Line::take","Line::ISA","UNIVERSAL::","UNIVERSAL::new","UNIVERSAL::put","UNIVERSAL::take","UNIVERSAL::ISA","main::","main::new","main::put","main::take","main::ISA"]) 0
noncomputable def WA(i:Nat):Str:=⟨(List.replicate (2000+i) 35).toArray⟩
def NM(i:Nat):Str:=match Dc.get i with|some x=>x|none=>WA i
noncomputable abbrev IE.g(n a:Nat):IE:=.cJ n<|.g a
noncomputable abbrev IE.n:IE:=.c .none
noncomputable abbrev IE.i(k:Int):IE:=.c<|.i 0 k
noncomputable abbrev IE.s(k:Nat):IE:=.c<|.s k
noncomputable abbrev IE.b(x:Bool):IE:=.c<|.b x
noncomputable abbrev IE.a(x k:Nat):IE:=.dg (.l x) k
noncomputable abbrev IE.m(x k:Nat)(as:List IE):IE:=.bT (.l x) k as
abbrev IE.d(x j k:Nat)(as:List IE):IE:=.bT (.a x j) k as
abbrev IE.k(n a:Nat)(as:List IE):IE:=.call (.g n a) as
noncomputable abbrev IE.z(e:IE):IE:=.call (.cJ 57<|.bi 0) [e]
noncomputable abbrev IE.o(e f:IE):IE:=.call (.cJ 42<|.bi 1) [e,f]
noncomputable abbrev IS.r(e:IE):IS:=.ret<|some e
noncomputable abbrev IS.l(x:Nat)(e:IE):IS:=.asg (.l x) e
noncomputable abbrev IS.t(x k:Nat)(e:IE):IS:=.n_ (.l x) k e
noncomputable abbrev IS.w(c:IE)(b:List IS):IS:=.iff c b []
abbrev IS.k(n a:Nat)(as:List IE):IS:=.ex<|.k n a as
abbrev IS.m(x k:Nat)(as:List IE):IS:=.ex<|.m x k as
abbrev IS.d(x j k:Nat)(as:List IE):IS:=.ex<|.d x j k as
noncomputable abbrev Fn.F(ps:List Nat)(b:List IS):Fn:=⟨ps,[],[],[],b⟩
def f42:Fn:=.F [5,6] [.t 5 6<|.l 6,.t 5 7<|.i 0,.t 5 8 .n,.t 5 9<|.list [],.t 5 10<|.b false,.t 5 11<|.b false]
def f63:Fn:=.F [5,6,12] [.ex<|.bT (.g 13 45) 4 [.l 5,.l 6],.t 5 12<|.l 12,.t 5 14 .n]
def f82:Fn:=.F [5,6] [.ex<|.bT (.g 13 45) 4 [.l 5,.l 6],.t 5 15<|.list [],.t 5 16 .n]
def aa2:Fn:=.F [5,6,17,18] [.ex<|.bT (.g 13 45) 4 [.l 5,.l 6],.t 5 17<|.l 17,.t 5 18<|.l 18,.t 5 19 .n,.t 5 20<|.s 21]
def aa1:Fn:=.F [5,6,22] [.ex<|.bT (.g 13 45) 4 [.l 5,.l 6],.t 5 22<|.l 22,.t 5 23 .n,.t 5 24 .n,.t 5 25 .n,.t 5 26 .n]
def aa0:Fn:=⟨[5,27,28],[.b false],[],[],[.t 5 27<|.l 27,.t 5 28<|.l 28]⟩
def aaZ:Fn:=.F [5,29] [.t 5 29<|.l 29,.t 5 30<|.i 0,.t 5 31<|.list []]
def aaY:Fn:=.F [5] [.n7 (.l 5) 30 .add<|.i 1,.r<|.a 5 30]
def aaX:Fn:=.F [5,12] [.r<|.k 34 66 [.m 5 32 [],.l 12]]
def aaW:Fn:=.F [5] [.r<|.k 36 85 [.m 5 32 []]]
def aaV:Fn:=.F [5,17,18] [.r<|.k 38 123 [.m 5 32 [],.l 17,.l 18]]
def aaU:Fn:=.F [5,22] [.r<|.k 40 142 [.m 5 32 [],.l 22]]
def aaT:Fn:=.F [41] [.w (.not<|.o (.l 41)<|.g 34 66) [.r<|.l 41],.w (.cmp .gI (.a 41 14) .n) [.r<|.d 41 14 43 []],.r<|.a 41 12]
def aaS:Fn:=.F [12] [.w (.cmp .is (.l 12) .n) [.r<|.s 0],.w (.o (.l 12)<|.cJ 44<|.ty 0) [.r<|.k 45 28 [.l 12]],.w (.o (.l 12)<|.g 46 162) [.r<|.k 47 250 [.l 12]],.r<|.l 12]
def aaR:Fn:=⟨[48,49],[],[48],[],[.r<|.comp (.bT (.b9 48) 50 [.l 12]) (.l 12) (.l 49) [] [48]]⟩
def aaQ:Fn:=.F [48,51] [.w (.cmp .is (.l 51) .n) [.r .n],.l 12<|.k 52 257 [.l 51],.m 48 53 [.l 51],.r<|.l 12]
def aaP:Fn:=.F [48,54] [.w (.cmp .gt (.l 54)<|.dg (.dg (.a 48 55) 29) 15) [.iq]]
def aaO:Fn:=.F [48,24,49] [.k 56 398 [.l 48,.bin .add (.z<|.a 24 15)<|.z<|.l 49],.d 24 15 58 [.k 59 384 [.l 48,.l 49]],.r<|.z<|.a 24 15]
def aaN:Fn:=.F [48,24,49] [.k 56 398 [.l 48,.bin .add (.z<|.a 24 15)<|.z<|.l 49],.Iv (.a 24 15)<|.k 59 384 [.l 48,.l 49],.r<|.z<|.a 24 15]
def aaM:Fn:=.F [48,24] [.w (.cmp .eq (.a 24 15)<|.list []) [.r .n],.r<|.k 60 391 [.l 48,.d 24 15 61 []]]
def aaL:Fn:=.F [62] [.r<|.comp (.k 52 257 [.l 51]) (.l 51) (.l 62) [] []]
def aaK:Fn:=.F [63,64] [.w (.cmp .gI (.l 64) .n) [.d 63 48 65 [.l 64]]]
def aaJ:Fn:=.F [63,66] [.k 67 453 [.l 63,.dg (.sub (.l 66)<|.i 1) 24],.n_ (.sub (.l 66)<|.i 1) 24<|.sub (.l 66)<|.i 2]
def aaI:Fn:=.F [63,75] [.Ga (.cmp .gt (.z<|.a 63 76)<|.l 75) [.l 66<|.d 63 76 61 [],.ex<|.call (.sub (.g 77 531)<|.sub (.l 66)<|.i 0) [.l 63,.l 66]]]
def aaH:Fn:=.F [63,12] [.w (.o (.l 12)<|.g 46 162) [.l 78<|.d 63 55 33 [.n],.d 63 48 79 [.l 78,.l 12],.d 63 48 80 [.l 78]],.r<|.l 12]
def aaG:Fn:=.F [5,70,81,82,26,20,83] [.t 5 70<|.l 70,.t 5 81<|.l 81,.t 5 82<|.l 82,.t 5 26<|.l 26,.t 5 20<|.l 20,.t 5 83<|.l 83]
def aaF:Fn:=.F [5,55,48,84,29] [.t 5 55<|.l 55,.t 5 48<|.l 48,.t 5 84<|.l 84,.t 5 29<|.l 29,.t 5 85<|.dict [] [],.t 5 86<|.dict [] [],.t 5 87<|.dict [] [],.t 5 88<|.dict [] [],.t 5 89<|.dict [] [],.t 5 90<|.list [],.t 5 91<|.list [],.t 5 76<|.list [],.t 5 92<|.list [],.t 5 72 .n,.t 5 93<|.dict [] [],.t 5 94<|.i 0,.t 5 95 .n,.t 5 96 .n,.t 5 97 .n]
def aaE:Fn:=.F [63,98,82] [.w (.cmp .fQ (.sub (.l 98)<|.i 0)<|.a 63 85) [.iq],.r<|.call (.sub (.a 63 85)<|.sub (.l 98)<|.i 0) [.l 63,.l 98,.l 82]]
def aaD:Fn:=.F [63,98] [.r<|.k 52 257 [.k 99 615 [.l 63,.l 98,.cJ 100<|.i 0 1]]]
def aaC:Fn:=.F [63,98] [.r<|.k 99 615 [.l 63,.l 98,.cJ 101<|.i 0 2]]
def aaB:Fn:=.F [63,62] [.w (.cmp .gt (.z<|.l 62)<|.dg (.a 63 29) 15) [.iq],.r<|.l 62]
def aaA:Fn:=.F [98] [.l 102<|.list [.l 98],.Ga (.cmp .ne (.l 102)<|.list []) [.l 103<|.m 102 61 [],.w (.cmp .isin (.sub (.l 103)<|.i 0)<|.tup [.s 104,.s 105]) [.r<|.b true],.iff (.cmp .eq (.sub (.l 103)<|.i 0)<|.s 106) [.m 102 58 [.sub (.l 103)<|.i 1]] [.w (.cmp .eq (.sub (.l 103)<|.i 0)<|.s 107) [.m 102 58 [.oR (.l 103) (some<|.i 2) none]]]],.r<|.b false]
def aaz:Fn:=.F [63,98] [.w (.not<|.k 108 643 [.l 98]) [.r<|.k 109 629 [.l 63,.l 98]],.w (.cmp .eq (.sub (.l 98)<|.i 0)<|.s 106) [.l 110<|.list [],.fr (.l 103) (.sub (.l 98)<|.i 1) [.m 110 58 [.k 111 650 [.l 63,.l 103]]],.r<|.k 112 636 [.l 63,.l 110]],.w (.cmp .eq (.sub (.l 98)<|.i 0)<|.s 107) [.r<|.k 111 650 [.l 63,.ite (.k 113 271 [.k 114 622 [.l 63,.sub (.l 98)<|.i 1]]) (.sub (.l 98)<|.i 2)<|.sub (.l 98)<|.i 3]],.w (.cmp .fQ (.sub (.l 98)<|.i 0)<|.a 63 86) [.r<|.k 109 629 [.l 63,.l 98]],.l 64<|.call (.sub (.a 63 86)<|.sub (.l 98)<|.i 0) [.l 63,.l 98],.r<|.ite (.cmp .eq (.sub (.l 98)<|.i 0)<|.s 104) (.k 115 552 [.l 64])<|.k 116 559 [.l 64]]
def aay:Fn:=.F [84,20] [.l 24<|.m 84 117 [.bin .add (.l 20)<|.s 118],.w (.cmp .is (.l 24) .n) [.r<|.list []],.r<|.comp (.k 119 264 [.k 52 257 [.l 120]]) (.l 120) (.a 24 15) [] []]
def aax:Fn:=.F [84,20] [.l 83<|.list [.l 20],.l 121<|.list [.l 20],.l 122<|.list [.k 123 656 [.l 84,.l 20]],.l 124<|.list [.i 0],.Ga (.l 121) [.w (.cmp .eq (.sub (.l 124)<|.neg<|.i 1)<|.z<|.sub (.l 122)<|.neg<|.i 1) [.m 121 61 [],.m 122 61 [],.m 124 61 [],.cont],.l 125<|.sub (.sub (.l 122)<|.neg<|.i 1)<|.sub (.l 124)<|.neg<|.i 1,.Ir (.l 124) (.neg<|.i 1) .add<|.i 1,.w (.cmp .isin (.l 125)<|.l 121) [.iq],.w (.cmp .fQ (.l 125)<|.l 83) [.m 83 126 [.l 125],.m 121 126 [.l 125],.m 122 126 [.k 123 656 [.l 84,.l 125]],.m 124 126 [.i 0]]],.r<|.l 83]
def aaw:Fn:=.F [84,20] [.l 83<|.k 127 663 [.l 84,.l 20],.fr (.l 128) (.k 127 663 [.l 84,.cJ 129<|.s 129]) [.w (.cmp .fQ (.l 128)<|.l 83) [.m 83 126 [.l 128]]],.r<|.l 83]
def aav:Fn:=.F [84,83,22] [.fr (.l 20) (.l 83) [.l 26<|.m 84 130 [.bin .add (.bin .add (.l 20)<|.s 131)<|.l 22],.w (.cmp .gI (.l 26) .n) [.r<|.tup [.l 26,.l 20]]],.r .n]
def aau:Fn:=.F [5] [.t 5 132<|.neg<|.i 1,.t 5 133<|.dict [] []]
def aat:Fn:=.F [5,84,83,22] [.w (.cmp .ne (.a 5 132)<|.a 84 132) [.t 5 132<|.a 84 132,.t 5 133<|.dict [] []],.l 135<|.tup [.l 22,.call (.cJ 136<|.ty 2) [.l 83]],.w (.cmp .fQ (.l 135)<|.a 5 133) [.mR (.a 5 133) (.l 135)<|.k 137 677 [.l 84,.l 83,.l 22]],.r<|.sub (.a 5 133)<|.l 135]
def aas:Fn:=.F [22] [.l 124<|.m 22 138 [.s 131],.w (.cmp .lt (.l 124)<|.i 0) [.r<|.tup [.s 0,.l 22]],.r<|.tup [.oR (.l 22) none<|some<|.l 124,.oR (.l 22) (some<|.bin .add (.l 124)<|.i 2) none]]
def aar:Fn:=.F [12,22] [.w (.o (.l 12)<|.g 46 162) [.w (.cmp .is (.dg (.a 12 27) 8) .n) [.iq],.r<|.dg (.a 12 27) 8],.w (.cmp .is (.l 12) .n) [.iq],.l 139<|.k 119 264 [.l 12],.w (.cmp .eq (.l 139)<|.s 0) [.iq],.r<|.l 139]
def aaq:Fn:=.F [63,140,22,141] [.w (.o (.l 22)<|.g 46 162) [.w (.not<|.o (.a 22 27)<|.g 38 123) [.iq],.r<|.a 22 27],.l 20<|.k 142 719 [.l 140,.l 22],.asg (.tup [.l 143,.l 30])<|.k 144 712 [.l 22],.iff (.cmp .gI (.l 141) .n) [.l 20<|.l 141,.l 83<|.oR (.k 145 670 [.a 63 84,.l 20]) (some<|.i 1) none] [.w (.cmp .ne (.l 143)<|.s 0) [.l 20<|.l 143],.l 83<|.k 145 670 [.a 63 84,.l 20]],.l 110<|.d 63 95 134 [.a 63 84,.l 83,.l 30],.w (.cmp .gI (.l 110) .n) [.r<|.sub (.l 110)<|.i 0],.l 26<|.k 146 740 [.l 63,.l 83,.l 20,.l 30],.w (.and [.cmp .is (.l 26) .n,.cmp .fQ (.l 30)<|.oR (.cJ 147<|.t [.s 148,.s 149,.s 150]) (some<|.i 1) none]) [.iq],.r<|.l 26]
def aap:Fn:=.F [5,70,81,82,26,20,83] [.ex<|.bT (.g 189 583) 4 [.l 5,.l 70,.l 81,.l 82,.l 26,.l 20,.l 83],.t 5 190<|.i 0,.t 5 191<|.cJ 192<|.t [.i 0 0,.i 0 0],.t 5 193<|.dict [] []]
def aao:Fn:=⟨[151],[],[194],[],[.l 195<|.i 0,.l 196<|.i 0,.l 102<|.comp (.tup [.l 197,.i 0]) (.l 197) (.sub (.l 151)<|.i 1) [] [],.Ga (.cmp .ne (.l 102)<|.list []) [.asg (.tup [.l 103,.b9 194])<|.m 102 61 [],.w (.and [.o (.l 103)<|.cJ 136<|.ty 2,.cmp .gt (.z<|.l 103)<|.i 0,.o (.sub (.l 103)<|.i 0)<|.cJ 161<|.ty 1]) [.w (.cmp .eq (.sub (.l 103)<|.i 0)<|.s 198) [.cont],.w (.cmp .isin (.sub (.l 103)<|.i 0)<|.g 199 791) [.l 195<|.call (.cJ 200<|.bi 6) [.l 195,.bin .add (.b9 194)<|.sub (.g 199 791)<|.sub (.l 103)<|.i 0]],.Iu 194 .add<|.bT (.g 201 788) 43 [.sub (.l 103)<|.i 0,.cJ 202<|.i 0 4],.l 196<|.call (.cJ 200<|.bi 6) [.l 196,.b9 194]],.w (.o (.l 103)<|.tup [.cJ 136<|.ty 2,.cJ 106<|.ty 3]) [.m 102 58 [.comp (.tup [.l 197,.b9 194]) (.l 197) (.l 103) [] [194]]]],.r<|.tup [.l 195,.l 196]]⟩
def aan:Fn:=.F [26] [.w (.o (.a 26 17)<|.g 203 785) [.r<|.dg (.a 26 17) 191],.r<|.ite (.o (.a 26 17)<|.cJ 136<|.ty 2) (.k 204 816 [.sub (.a 26 17)<|.i 2])<|.cJ 192<|.t [.i 0 0,.i 0 0]]
def aam:Fn:=.F [205,26] [.w (.not<|.o (.l 205)<|.g 206 809) [.r<|.k 207 823 [.l 26]],.w (.cmp .fQ (.a 26 6)<|.a 205 193) [.mR (.a 205 193) (.a 26 6)<|.k 207 823 [.l 26]],.r<|.sub (.a 205 193)<|.a 26 6]
def aal:Fn:=.F [205] [.w (.not<|.o (.l 205)<|.g 206 809) [.r<|.cJ 208<|.i 0 4],.r<|.bin .add (.bin .add (.a 205 190)<|.sub (.a 205 191)<|.i 0)<|.cJ 208<|.i 0 4]
def aak:Fn:=.F [63,26] [.l 209<|.sub (.a 63 92)<|.neg<|.i 1,.w (.cmp .gt (.bin .add (.bin .add (.k 210 837 [.l 209])<|.sub (.k 211 830 [.l 209,.l 26])<|.i 1)<|.cJ 212<|.i 0 10)<|.cJ 213<|.i 0 880) [.iq]]
def aaj:Fn:=.F [63,70,81,82,26] [.l 209<|.sub (.a 63 92)<|.neg<|.i 1,.l 205<|.k 206 809 [.l 70,.l 81,.l 82,.l 26,.a 26 20,.a 209 83],.w (.o (.l 209)<|.g 206 809) [.t 205 193<|.a 209 193],.t 205 190<|.k 210 837 [.l 209],.t 205 191<|.k 211 830 [.l 205,.l 26],.r<|.l 205]
def aai:Fn:=.F [82] [.w (.cmp .eq (.l 82)<|.cJ 101<|.i 0 2) [.r<|.list []],.r .n]
def aah:Fn:=.F [63] [.n7 (.l 63) 94 .add<|.i 1,.w (.cmp .gt (.a 63 94)<|.dg (.a 63 29) 94) [.iq]]
def aag:Fn:=.F [63,214,82] [.Gn [.r<|.call (.sub (.a 63 87)<|.sub (.l 214)<|.i 0) [.l 63,.l 214,.l 82]]]
def aaf:Fn:=.F [63,214,82] [.k 215 872 [.l 63],.w (.cmp .fQ (.sub (.l 214)<|.i 0)<|.a 63 87) [.iq],.l 216<|.z<|.dg (.a 63 55) 31,.l 12<|.k 217 879 [.l 63,.l 214,.l 82],.w (.cmp .eq (.l 82)<|.cJ 218<|.i 0 0) [.d 63 48 219 [.l 216]],.r<|.l 12]
def aae:Fn:=.F [63,151,82] [.l 12<|.k 220 858 [.l 82],.l 30<|.bin .sub (.z<|.sub (.l 151)<|.i 1)<|.i 1,.BV (.l 124) (.z<|.sub (.l 151)<|.i 1) [.l 12<|.k 221 886 [.l 63,.sub (.sub (.l 151)<|.i 1)<|.l 124,.ite (.cmp .eq (.l 124)<|.l 30) (.l 82)<|.cJ 218<|.i 0 0]],.r<|.l 12]
def aad:Fn:=.F [63,214,82] [.n_ (.sub (.a 63 92)<|.neg<|.i 1) 83<|.sub (.l 214)<|.i 1,.r<|.k 99 615 [.l 63,.sub (.l 214)<|.i 2,.l 82]]
def aac:Fn:=.F [63,51] [.w (.o (.l 51)<|.g 34 66) [.r<|.l 51],.l 23<|.d 63 55 33 [.n],.d 63 48 79 [.l 23,.l 51],.r<|.l 23]
def aab:Fn:=⟨[63,12,82],[],[63],[],[.w (.cmp .eq (.l 82)<|.cJ 218<|.i 0 0) [.r .n],.w (.cmp .eq (.l 82)<|.cJ 101<|.i 0 2) [.r<|.comp (.k 222 566 [.b9 63,.k 52 257 [.l 197]]) (.l 197) (.l 12) [] [63]],.r<|.k 222 566 [.b9 63,.k 52 257 [.l 12]]]⟩
def aaa:Fn:=.F [63,62] [.l 81<|.d 63 55 35 [],.fr (.l 51) (.l 62) [.l 23<|.k 223 907 [.l 63,.l 51],.d 63 48 224 [.l 23],.d 81 15 126 [.l 23]],.r<|.l 81]
def Z_:Fn:=.F [63,81] [.d 63 76 126 [.tup [.s 24,.d 63 84 225 [.cJ 226<|.s 227],.d 63 84 228 [.cJ 226<|.s 227]]],.d 63 48 224 [.l 81],.n_ (.d 63 84 225 [.cJ 226<|.s 227]) 24<|.l 81]
def Z9:Fn:=.F [63,205,151,82] [.l 75<|.z<|.a 63 76,.d 63 92 126 [.l 205],.VB [.k 229 927 [.l 63,.a 205 81],.r<|.k 230 913 [.l 63,.k 231 893 [.l 63,.l 151,.l 82],.l 82]] [.Cg [.k 232 538 [.l 63,.l 75]] [.d 63 92 61 []]]]
def Z8:Fn:=.F [63,26] [.w (.cmp .gt (.z<|.a 63 92)<|.dg (.a 63 29) 233) [.iq],.w (.cmp .is (.a 26 17) .n) [.iq],.k 234 844 [.l 63,.l 26]]
def Z7:Fn:=.F [63,26,81,82] [.k 235 941 [.l 63,.l 26],.asg (.tup [.l 236,.l 22,.l 151,.l 54,.l 18])<|.a 26 17,.l 70<|.bin .mul (.list [.n])<|.l 54,.BV (.l 124) (.z<|.l 18) [.mR (.l 70) (.sub (.sub (.l 18)<|.l 124)<|.i 1)<|.sub (.a 26 18)<|.l 124],.l 205<|.k 237 851 [.l 63,.l 70,.l 81,.l 82,.l 26],.d 63 48 224 [.l 26],.Cg [.r<|.k 238 934 [.l 63,.l 205,.l 151,.l 82]] [.d 63 48 65 [.l 26]]]
def Z6:Fn:=.F [63,26,62,82] [.w (.cmp .gI (.a 26 19) .n) [.l 110<|.m 26 19 [.l 63,.l 62,.l 82],.w (.and [.cmp .eq (.l 82)<|.cJ 101<|.i 0 2,.not<|.o (.l 110)<|.cJ 106<|.ty 3]) [.r<|.list [.l 110]],.r<|.l 110],.k 235 941 [.l 63,.l 26],.r<|.k 239 948 [.l 63,.l 26,.k 240 920 [.l 63,.l 62],.l 82]]
def Z5:Fn:=.F [63,98] [.w (.o (.l 98)<|.cJ 161<|.ty 1) [.r<|.l 98],.l 12<|.k 114 622 [.l 63,.l 98],.w (.o (.l 12)<|.g 46 162) [.r<|.l 12],.r<|.k 119 264 [.l 12]]
def Z4:Fn:=.F [63,98,82] [.l 62<|.ite (.cmp .isin (.sub (.sub (.l 98)<|.i 1)<|.i 0)<|.cJ 241<|.t [.s 162,.s 164,.s 163,.s 242,.s 68,.s 69]) (.oR (.k 109 629 [.l 63,.sub (.l 98)<|.i 1]) none<|some<|.i 1)<|.list [.k 114 622 [.l 63,.sub (.l 98)<|.i 1]],.w (.cmp .gI (.sub (.l 98)<|.i 3) .n) [.l 62<|.k 112 636 [.l 63,.bin .add (.l 62)<|.k 111 650 [.l 63,.sub (.l 98)<|.i 3]]],.l 22<|.k 243 962 [.l 63,.sub (.l 98)<|.i 2],.l 26<|.k 244 747 [.l 63,.k 52 257 [.sub (.l 62)<|.i 0],.l 22,.sub (.l 98)<|.i 4],.w (.cmp .is (.l 26) .n) [.r<|.k 220 858 [.l 82]],.r<|.k 96 955 [.l 63,.l 26,.l 62,.l 82]]
def MD:Fn:=.F [64] [.l 245 .n,.iff (.o (.l 64)<|.g 34 66) [.l 245<|.a 64 14] [.w (.or [.o (.l 64)<|.g 36 85,.o (.l 64)<|.g 246 104]) [.l 245<|.a 64 16]],.r<|.ite (.o (.l 245)<|.g 247 986) (.dg (.a 245 83) 248) .n]
def JM:Fn:=⟨[64],[],[64],[],[.iff (.o (.b9 64)<|.g 36 85) [.l 249<|.dg (.b9 64) 15] [.iff (.o (.b9 64)<|.g 246 104) [.l 249<|.comp (.sub (.dg (.b9 64) 133)<|.l 135) (.l 135) (.dg (.b9 64) 133) [] [64]] [.iff (.o (.b9 64)<|.g 38 123) [.l 249<|.dg (.b9 64) 18] [.iff (.o (.b9 64)<|.g 40 142) [.l 249<|.list [.dg (.b9 64) 23,.dg (.b9 64) 24,.dg (.b9 64) 25,.dg (.b9 64) 26]] [.l 249<|.list []]]]],.r<|.comp (.l 197) (.l 197) (.bin .add (.l 249)<|.list [.k 250 997 [.b9 64]]) [.cmp .gI (.l 197) .n] []]⟩
def EA:Fn:=.F [64] [.iff (.and [.cmp .gI (.k 250 997 [.l 64]) .n,.o (.l 64)<|.g 34 66]) [.t 64 14 .n] [.w (.cmp .gI (.k 250 997 [.l 64]) .n) [.t 64 16 .n]],.iff (.o (.l 64)<|.g 36 85) [.t 64 15<|.list []] [.iff (.o (.l 64)<|.g 246 104) [.t 64 133<|.dict [] [],.t 64 124<|.i 0] [.iff (.o (.l 64)<|.g 38 123) [.t 64 18<|.list []] [.w (.o (.l 64)<|.g 40 142) [.t 64 23 .n,.t 64 24 .n,.t 64 25 .n,.t 64 26 .n]]]]]
def JL:Fn:=⟨[251],[],[110],[],[.asg (.b9 110)<|.dict [] [],.fr (.l 64) (.l 251) [.w (.and [.cmp .eq (.a 64 7)<|.i 0,.not<|.a 64 11]) [.mR (.b9 110) (.a 64 6)<|.l 64]],.r<|.comp (.sub (.b9 110)<|.l 6) (.l 6) (.call (.cJ 252<|.bi 2) [.b9 110]) [] [110]]⟩
def Tn:Fn:=.F [5,55,253] [.t 5 55<|.l 55,.t 5 253<|.l 253,.t 5 254<|.dict [] [],.t 5 255<|.dict [] []]
def Tj:Fn:=.F [5,64] [.n7 (.l 64) 7 .add<|.i 1]
def Ez:Fn:=.F [5,64] [.n7 (.l 64) 7 .sub<|.i 1,.w (.cmp .eq (.a 64 7)<|.i 0) [.ex<|.bT (.dg (.a 5 55) 31) 126 [.l 64]]]
def Ti:Fn:=.F [5,64] [.w (.cmp .eq (.a 64 7)<|.i 0) [.ex<|.bT (.dg (.a 5 55) 31) 126 [.l 64]]]
def JK:Fn:=.F [5,12] [.w (.not<|.o (.l 12)<|.g 46 162) [.r<|.l 12],.m 5 224 [.a 12 27],.w (.a 12 28) [.r<|.k 46 162 [.a 12 27]],.r<|.l 12]
def JJ:Fn:=⟨[5,23,12],[],[23],[],[.w (.not<|.o (.l 12)<|.g 46 162) [.ret none],.iff (.a 12 28) [.n_ (.a 12 27) 9<|.comp (.l 197) (.l 197) (.dg (.a 12 27) 9) [.cmp .ne (.a 197 6)<|.dg (.b9 23) 6] [23]] [.m 5 65 [.a 12 27]]]⟩
def JI:Fn:=.F [5,23,12] [.d 5 254 61 [.a 23 6,.n],.d 5 255 61 [.a 23 6,.n],.w (.cmp .gI (.a 23 14) .n) [.d 23 14 258 [.l 12],.ret none],.l 259<|.a 23 12,.t 23 12<|.m 5 256 [.l 12],.m 5 257 [.l 23,.l 259]]
def Tg:Fn:=.F [5,12] [.l 23<|.d 5 55 33 [.m 5 256 [.l 12]],.t 23 7<|.i 1,.r<|.l 23]
def Tf:Fn:=.F [5,23] [.m 5 65 [.l 23]]
def JH:Fn:=.F [5,216] [.Ga (.cmp .gt (.z<|.dg (.a 5 55) 31)<|.l 216) [.l 260<|.k 261 1014 [.oR (.dg (.a 5 55) 31) (some<|.l 216) none],.n_ (.a 5 55) 31<|.oR (.dg (.a 5 55) 31) none<|some<|.l 216,.fr (.l 64) (.l 260) [.m 5 262 [.l 64]],.fr (.l 64) (.l 260) [.w (.and [.cmp .eq (.a 64 7)<|.i 0,.not<|.a 64 11]) [.m 5 263 [.l 64]]]]]
def Ey:Fn:=.F [5,64] [.w (.or [.cmp .ne (.a 64 7)<|.i 0,.cmp .is (.a 64 8) .n,.a 64 10,.cmp .is (.a 5 253) .n]) [.ret none],.t 64 10<|.b true,.n7 (.l 64) 7 .add<|.i 1,.m 5 253 [.l 64],.n7 (.l 64) 7 .sub<|.i 1]
def Ex:Fn:=.F [5,64] [.t 64 11<|.b true,.fr (.l 23) (.a 64 9) [.t 23 12 .n],.t 64 9<|.list [],.w (.o (.l 64)<|.g 34 66) [.d 5 254 61 [.a 64 6,.n],.d 5 255 61 [.a 64 6,.n],.l 259<|.a 64 12,.t 64 12 .n,.m 5 257 [.l 64,.l 259]],.l 264<|.k 265 1002 [.l 64],.k 266 1009 [.l 64],.fr (.l 197) (.l 264) [.m 5 65 [.l 197]]]
def Te:Fn:=.F [64,20] [.t 64 8<|.l 20]
def Td:Fn:=⟨[5,267,233,94,139,15],[.i 0 64,.i 0 50,.i 0 1000000,.i 0 100000,.i 0 10000],[],[],[.t 5 267<|.l 267,.t 5 233<|.l 233,.t 5 94<|.l 94,.t 5 139<|.l 139,.t 5 15<|.l 15]⟩
def Tc:Fn:=.F [55,268] [.w (.cmp .eq (.l 268)<|.s 269) [.r<|.m 55 35 []],.w (.cmp .eq (.l 268)<|.s 270) [.r<|.m 55 271 []],.r<|.m 55 33 [.n]]
def JG:Fn:=.F [63,98] [.w (.cmp .fQ (.sub (.l 98)<|.i 0)<|.a 63 86) [.iq],.r<|.call (.sub (.a 63 86)<|.sub (.l 98)<|.i 0) [.l 63,.l 98]]
def JF:Fn:=.F [64] [.r<|.or [.cmp .is (.l 64) .n,.a 64 11]]
def JE:Fn:=.F [63,71,268] [.l 70<|.dg (.sub (.a 63 92)<|.neg<|.i 1) 70,.w (.k 272 1160 [.sub (.l 70)<|.l 71]) [.mR (.l 70) (.l 71)<|.k 273 1146 [.a 63 55,.l 268],.d 63 48 224 [.sub (.l 70)<|.l 71]],.r<|.sub (.l 70)<|.l 71]
def JD:Fn:=.F [63,98] [.r<|.k 274 1167 [.l 63,.sub (.l 98)<|.i 1,.s 275]]
def Tb:Fn:=.F [63,98,82] [.l 64<|.k 276 1153 [.l 63,.l 98],.w (.cmp .eq (.l 82)<|.cJ 101<|.i 0 2) [.r<|.list [.l 64]],.r<|.ite (.cmp .eq (.l 82)<|.cJ 218<|.i 0 0) .n<|.k 52 257 [.l 64]]
def Ta:Fn:=.F [63,98,82] [.w (.cmp .eq (.l 82)<|.cJ 101<|.i 0 2) [.l 110<|.list [],.fr (.l 103) (.sub (.l 98)<|.i 1) [.m 110 58 [.k 109 629 [.l 63,.l 103]]],.w (.cmp .gt (.z<|.l 110)<|.dg (.a 63 29) 15) [.iq],.r<|.l 110],.w (.cmp .eq (.sub (.l 98)<|.i 1)<|.list []) [.r .n],.fr (.l 103) (.oR (.sub (.l 98)<|.i 1) none<|some<|.neg<|.i 1) [.k 99 615 [.l 63,.l 103,.cJ 218<|.i 0 0]],.r<|.k 99 615 [.l 63,.sub (.sub (.l 98)<|.i 1)<|.neg<|.i 1,.l 82]]
def S_:Fn:=.F [64,22] [.w (.not<|.o (.l 64)<|.g 36 85) [.iq]]
def S9:Fn:=.F [63,81,82] [.k 277 1195 [.sub (.l 81)<|.i 0,.s 278],.l 49<|.k 279 424 [.oR (.l 81) (some<|.i 1) none],.w (.cmp .gI (.dg (.sub (.l 81)<|.i 0) 16) .n) [.ex<|.bT (.dg (.sub (.l 81)<|.i 0) 16) 278 [.l 49],.r<|.k 280 1202 [.sub (.l 81)<|.i 0,.l 82]],.r<|.k 281 405 [.a 63 48,.sub (.l 81)<|.i 0,.l 49]]
def S8:Fn:=.F [63,81,82] [.k 277 1195 [.sub (.l 81)<|.i 0,.s 282],.l 49<|.k 279 424 [.oR (.l 81) (some<|.i 1) none],.w (.cmp .gI (.dg (.sub (.l 81)<|.i 0) 16) .n) [.ex<|.bT (.dg (.sub (.l 81)<|.i 0) 16) 282 [.l 49],.r<|.k 280 1202 [.sub (.l 81)<|.i 0,.l 82]],.r<|.k 283 412 [.a 63 48,.sub (.l 81)<|.i 0,.l 49]]
def S7:Fn:=.F [63,81,82] [.k 277 1195 [.sub (.l 81)<|.i 0,.s 61],.w (.cmp .gI (.dg (.sub (.l 81)<|.i 0) 16) .n) [.r<|.bT (.dg (.sub (.l 81)<|.i 0) 16) 61 []],.r<|.k 284 419 [.a 63 48,.sub (.l 81)<|.i 0]]
def S6:Fn:=.F [5,55] [.t 5 55<|.l 55,.t 5 164<|.dict [] [],.t 5 132<|.i 0]
def S3:Fn:=.F [5,22] [.w (.cmp .fQ (.l 22)<|.a 5 164) [.mR (.a 5 164) (.l 22)<|.d 5 55 39 [.l 22]],.r<|.sub (.a 5 164)<|.l 22]
def SY:Fn:=.F [5,22] [.l 285<|.m 5 225 [.l 22],.w (.cmp .is (.a 285 24) .n) [.t 285 24<|.d 5 55 35 [],.n7 (.a 285 24) 7 .add<|.i 1],.r<|.a 285 24]
def SX:Fn:=.F [5,22] [.w (.cmp .fQ (.l 22)<|.a 5 164) [.r .n],.r<|.dg (.sub (.a 5 164)<|.l 22) 26]
def SW:Fn:=.F [5,22] [.w (.cmp .fQ (.l 22)<|.a 5 164) [.r .n],.r<|.dg (.sub (.a 5 164)<|.l 22) 24]
def SV:Fn:=.F [48,286,259] [.w (.cmp .gI (.l 286) .n) [.m 48 224 [.l 286]],.w (.cmp .gI (.l 259) .n) [.m 48 65 [.l 259]]]
def SU:Fn:=.F [84,48,22,26] [.l 285<|.m 84 225 [.l 22],.l 259<|.a 285 26,.t 285 26<|.l 26,.k 287 1293 [.l 48,.l 26,.l 259],.n7 (.l 84) 132 .add<|.i 1]
def SS:Fn:=.F [63,98,82] [.r<|.ite (.cmp .eq (.l 82)<|.i 2) (.list [.sub (.l 98)<|.i 1])<|.sub (.l 98)<|.i 1]
def SQ:Fn:=.F [63,64,22] [.d 63 48 80 [.l 64],.k 288 1117 [.l 64,.l 22],.r<|.k 46 162 [.l 64]]
def SO:Fn:=.F [63,98,82] [.l 143<|.comp (.a 197 12) (.l 197) (.dg (.d 63 84 228 [.s 227]) 15) [] [],.iff (.cmp .eq (.sub (.l 98)<|.i 1)<|.s 286) [.l 110<|.k 289 1319 [.l 63,.d 63 55 35 [],.sub (.l 143)<|.i 0]] [.l 290<|.sub (.dict [.s 278,.s 282,.s 61] [.g 291 1209,.g 292 1216,.g 293 1223])<|.sub (.l 98)<|.i 1,.l 110<|.call (.l 290) [.l 63,.bin .add (.list [.dg (.sub (.l 143)<|.i 0) 27])<|.oR (.l 143) (some<|.i 1) none,.l 82]],.r<|.ite (.cmp .eq (.l 82)<|.i 2) (.list [.l 110])<|.l 110]
def SN:Fn:=.F [294] [.l 29<|.k 295 1135 [],.l 55<|.k 296 225 [.l 29],.l 63<|.k 297 604 [.l 55,.k 298 1106 [.l 55,.l 294],.k 299 1282 [.l 55],.l 29],.t 63 85<|.dict [.s 300,.s 301,.s 162,.s 106,.s 176] [.g 302 1312,.g 303 1324,.g 304 1181,.g 305 1188,.g 306 969],.t 63 86<|.dict [.s 162] [.g 307 1174],.t 63 87<|.dict [.s 152] [.g 308 900],.t 63 95<|.k 309 701 [],.d 63 92 126 [.k 206 809 [.list [.n,.n],.d 63 84 228 [.s 227],.i 0,.n,.s 21,.i 1]],.fr (.tup [.l 22,.l 236]) (.cJ 310<|.t [.t [.s 311,.s 286],.t [.s 312,.s 278],.t [.s 313,.s 61],.t [.s 314,.s 282]]) [.l 17<|.tup [.s 198,.l 22,.tup [.s 151,.list [.tup [.s 152,.i 1,.tup [.s 301,.l 236]]]],.i 0,.list []],.k 315 1300 [.a 63 84,.a 63 48,.l 22,.m 55 37 [.l 17,.list []]]],.fr (.tup [.l 22,.l 125]) (.tup [.tup [.s 2,.s 1],.tup [.s 3,.s 2]]) [.k 291 1209 [.l 63,.list [.d 63 84 228 [.bin .add (.l 22)<|.s 118],.l 125],.i 0]],.r<|.l 63]
def SM:Fn:=.F [63,124,22,85] [.r<|.k 306 969 [.l 63,.tup [.s 176,.tup [.s 162,.l 124],.l 22,.l 85,.n],.i 1]]
def SJ:Fn:=.F [63,122,316,290] [.w (.cmp .lt (.l 290)<|.i 2) [.l 317<|.k 289 1319 [.l 63,.d 63 55 33 [.bin .add (.z<|.l 316)<|.i 1],.s 13],.m 316 126 [.dg (.a 317 27) 6],.BV (.l 124) (.i 2) [.ex<|.bT (.sub (.l 122)<|.l 124) 126 [.z<|.l 316],.w (.cmp .ne (.k 318 1338 [.l 63,.l 124,.s 258,.tup [.s 106,.list [.tup [.s 300,.l 317]]]])<|.z<|.sub (.l 122)<|.l 124) [.r<|.b false]],.r<|.b true],.w (.cmp .eq (.l 290)<|.i 4) [.ex<|.bT (.sub (.l 122)<|.i 0) 126 [.ite (.cmp .ne (.sub (.l 122)<|.i 1)<|.list []) (.bT (.sub (.l 122)<|.i 1) 61 [.i 0]) .n],.l 319<|.tup [.s 176,.tup [.s 162,.i 1],.s 256,.n,.n],.r<|.cmp .eq (.k 318 1338 [.l 63,.i 0,.s 258,.tup [.s 106,.list [.l 319]]])<|.z<|.sub (.l 122)<|.i 0],.l 124<|.bin .sub (.l 290)<|.i 2,.l 110<|.k 318 1338 [.l 63,.l 124,.s 256,.n],.w (.cmp .eq (.sub (.l 122)<|.l 124)<|.list []) [.r<|.cmp .is (.l 110) .n],.l 320<|.bT (.sub (.l 122)<|.l 124) 61 [.ite (.cmp .eq (.l 124)<|.i 0) (.neg<|.i 1)<|.i 0],.r<|.ite (.cmp .is (.l 320) .n) (.cmp .is (.l 110) .n)<|.cmp .eq (.dg (.a 110 27) 12)<|.l 320]
def nF:Fn:=⟨[63,122,316,264,321],[],[122,316],[],[.l 322<|.comp (.sub (.b9 316)<|.l 323) (.l 323) (.call (.cJ 171<|.ty 5) [.z<|.b9 316]) [.cmp .fQ (.bin .add (.l 323)<|.i 1)<|.bin .add (.sub (.b9 122)<|.i 0)<|.sub (.b9 122)<|.i 1] [316,122],.l 324<|.and [.cmp .eq (.a 63 76)<|.list [],.cmp .eq (.z<|.a 63 92)<|.i 1,.cmp .eq (.dg (.a 63 55) 31)<|.list []],.r<|.and [.l 324,.cmp .eq (.call (.cJ 252<|.bi 2) [.l 321])<|.call (.cJ 252<|.bi 2) [.bin .add (.l 322)<|.l 264]]]⟩
def wq:Fn:=⟨[64],[],[],[321],[.ex<|.bT (.b9 321) 126 [.a 64 6]]⟩
def OZ:Fn:=⟨[325],[],[321],[],[.asg (.tup [.b9 321,.l 316,.l 122,.l 264])<|.tup [.list [],.list [],.list [.list [],.list []],.list []],.WI 294 9999,.l 326<|.bad "step",.l 63<|.k 327 1331 [.l 294],.fr (.l 22) (.tup [.s 1,.sub (.tup [.s 3,.s 2])<|.bin .mod (.m 326 61 [])<|.i 2]) [.l 317<|.k 306 969 [.l 63,.tup [.s 176,.tup [.s 300,.l 22],.s 286,.n,.n],.i 1],.d 63 48 79 [.k 276 1153 [.l 63,.tup [.s 162,.ite (.cmp .eq (.l 22)<|.s 1) (.i 0)<|.i 1]],.l 317]],.BV (.l 328) (.bin .add (.i 5)<|.bin .mod (.m 326 61 [])<|.i 3) [.l 329<|.k 330 1345 [.l 63,.l 122,.l 316,.bin .mod (.m 326 61 [])<|.i 5],.d 63 48 219 [.i 0],.w (.or [.not<|.l 329,.not<|.k 331 1350 [.l 63,.l 122,.l 316,.l 264,.b9 321]]) [.r<|.b false]],.BV (.l 124) (.i 2) [.l 332<|.k 276 1153 [.l 63,.tup [.s 162,.l 124]],.m 264 126 [.dg (.dg (.a 332 12) 27) 6],.d 63 48 79 [.l 332,.n],.d 63 48 219 [.i 0],.mR (.l 122) (.l 124)<|.list [],.w (.not<|.k 331 1350 [.l 63,.l 122,.l 316,.l 264,.b9 321]) [.r<|.b false]],.r<|.b true]⟩
def Wz:TR Fn:=.OM [(42,f42),(63,f63),(82,f82),(120,aa2),(139,aa1),(159,aa0),(180,aaZ),(187,aaY),(194,aaX),(201,aaW),(215,aaV),(222,aaU),(257,aaT),(264,aaS),(384,aaR),(391,aaQ),(398,aaP),(405,aaO),(412,aaN),(419,aaM),(424,aaL),(453,aaK),(467,aaJ),(538,aaI),(566,aaH),(580,aaG),(601,aaF),(615,aaE),(622,aaD),(629,aaC),(636,aaB),(643,aaA),(650,aaz),(656,aay),(663,aax),(670,aaw),(677,aav),(691,aau),(698,aat),(712,aas),(719,aar),(747,aaq),(806,aap),(816,aao),(823,aan),(830,aam),(837,aal),(844,aak),(851,aaj),(858,aai),(872,aah),(879,aag),(886,aaf),(893,aae),(900,aad),(907,aac),(913,aab),(920,aaa),(927,Z_),(934,Z9),(941,Z8),(948,Z7),(955,Z6),(962,Z5),(969,Z4),(997,MD),(1002,JM),(1009,EA),(1014,JL),(1028,Tn),(1035,Tj),(1042,Ez),(1049,Ti),(1056,JK),(1061,JJ),(1068,JI),(1075,Tg),(1082,Tf),(1089,JH),(1096,Ey),(1103,Ex),(1117,Te),(1132,Td),(1146,Tc),(1153,JG),(1160,JF),(1167,JE),(1174,JD),(1181,Tb),(1188,Ta),(1195,S_),(1209,S9),(1216,S8),(1223,S7),(1237,S6),(1244,S3),(1258,SY),(1272,SX),(1279,SW),(1293,SV),(1300,SU),(1312,SS),(1319,SQ),(1324,SO),(1331,SN),(1338,SM),(1345,SJ),(1350,nF),(9999,wq)]
def OQ:TR Cl:=.OM [(45,⟨some 42,[(4,42)]⟩),(66,⟨some 63,[(4,63)]⟩),(85,⟨some 82,[(4,82)]⟩),(123,⟨some 120,[(4,120)]⟩),(142,⟨some 139,[(4,139)]⟩),(162,⟨some 159,[(4,159)]⟩),(225,⟨some 180,[(39,222),(37,215),(35,201),(33,194),(32,187),(4,180)]⟩),(583,⟨some 580,[(4,580)]⟩),(604,⟨some 601,[(4,601)]⟩),(701,⟨some 691,[(134,698),(4,691)]⟩),(809,⟨some 806,[(4,806)]⟩),(1106,⟨some 1028,[(263,1103),(262,1096),(219,1089),(53,1082),(50,1075),(79,1068),(257,1061),(256,1056),(80,1049),(65,1042),(224,1035),(4,1028)]⟩),(1135,⟨some 1132,[(4,1132)]⟩),(1282,⟨some 1237,[(117,1279),(130,1272),(228,1258),(225,1244),(4,1237)]⟩)]
noncomputable def jy:List (Nat×List Nat):=[(986,[986]),(809,[809,583]),(785,[785,764]),(162,[162]),(142,[142,45]),(123,[123,45]),(104,[104,45]),(85,[85,45]),(66,[66,45])]
noncomputable def Po:List (AV×AV):=[(.s 175,.i 0 2),(.s 176,.i 0 2),(.s 181,.i 0 7),(.s 188,.i 0 4)]
noncomputable def Pp:List (AV×AV):=[(.s 151,.i 0 2),(.s 152,.i 0 3),(.s 153,.i 0 4),(.s 154,.i 0 5),(.s 155,.i 0 5),(.s 156,.i 0 5),(.s 157,.i 0 5),(.s 158,.i 0 3),(.s 159,.i 0 2),(.s 160,.i 0 2),(.s 161,.i 0 2),(.s 162,.i 0 2),(.s 163,.i 0 2),(.s 164,.i 0 2),(.s 165,.i 0 3),(.s 166,.i 0 3),(.s 167,.i 0 3),(.s 168,.i 0 3),(.s 169,.i 0 3),(.s 170,.i 0 3),(.s 107,.i 0 3),(.s 106,.i 0 3),(.s 171,.i 0 3),(.s 172,.i 0 3),(.s 173,.i 0 3),(.s 174,.i 0 3),(.s 175,.i 0 4),(.s 176,.i 0 4),(.s 177,.i 0 3),(.s 178,.i 0 2),(.s 179,.i 0 4),(.s 180,.i 0 4),(.s 181,.i 0 9),(.s 182,.i 0 6),(.s 72,.i 0 6),(.s 183,.i 0 8),(.s 184,.i 0 6),(.s 185,.i 0 6),(.s 186,.i 0 5),(.s 187,.i 0 5)]
noncomputable def Pq:List (AV×AV):=[(.s 23,.g 460),(.s 24,.g 467),(.s 25,.g 474),(.s 26,.g 481),(.s 68,.g 488),(.s 69,.g 495),(.s 70,.g 509),(.s 71,.g 516),(.s 72,.g 523),(.s 20,.g 530),(.s 73,.g 502),(.s 74,.g 502)]
def KQ:List (Nat×List (AV×AV)):=[(791,Po),(788,Pp),(531,Pq)]
noncomputable def NB:List (Nat×Nat×Nat):=[(21,(118,354)),(350,(334,354)),(350,(256,353)),(350,(258,352)),(350,(286,351)),(21,(131,350)),(129,(118,349)),(345,(334,349)),(345,(256,348)),(345,(258,347)),(345,(286,346)),(129,(131,345)),(3,(118,344)),(340,(334,344)),(340,(256,343)),(340,(258,342)),(340,(286,341)),(3,(131,340)),(2,(118,339)),(336,(334,339)),(336,(256,338)),(336,(258,314)),(336,(286,337)),(2,(131,336)),(1,(118,335)),(333,(334,335)),(333,(256,313)),(333,(258,312)),(333,(286,311)),(1,(131,333))]
noncomputable def Nr:List (Nat×Nat×Int):=[(286,(131,-1)),(258,(131,-1)),(256,(131,-1))]
noncomputable def WN:List Nat:=[6,76,92,31,55,27,12,85,86,87,95,84,48,15,26,132,164,24,7,16,29,70,11,267,233,94,139,8,9,254,255,10,253,14,28,133,124,18,23,25,248,83,19,17,81,20,193,190,191,88,89,90,91,72,93,96,97,82,30,22]
noncomputable def UY:List (Nat×Nat):=[(43,103),(58,101),(61,102),(126,100),(138,104)]
noncomputable def SH:List (Nat×AV):=[(44,.ty 0),(200,.bi 6),(136,.ty 2),(106,.ty 3),(161,.ty 1),(42,.bi 1),(252,.bi 2),(57,.bi 0),(171,.ty 5)]
noncomputable def ZY:List (Nat×AV):=[(331,.g 1350),(330,.g 1345),(327,.g 1331),(13,.g 45),(47,.g 250),(45,.g 28),(59,.g 384),(56,.g 398),(60,.g 391),(67,.g 453),(77,.g 531),(100,.i 0 1),(116,.g 559),(115,.g 552),(113,.g 271),(108,.g 643),(123,.g 656),(129,.s 129),(127,.g 663),(137,.g 677),(147,.t [.s 148,.s 149,.s 150]),(146,.g 740),(145,.g 670),(144,.g 712),(142,.g 719),(189,.g 583),(202,.i 0 4),(201,.g 788),(199,.g 791),(192,.t [.i 0 0,.i 0 0]),(204,.g 816),(203,.g 785),(207,.g 823),(208,.i 0 4),(213,.i 0 880),(212,.i 0 10),(211,.g 830),(210,.g 837),(217,.g 879),(215,.g 872),(221,.g 886),(222,.g 566),(223,.g 907),(226,.s 227),(232,.g 538),(231,.g 893),(230,.g 913),(229,.g 927),(234,.g 844),(238,.g 934),(237,.g 851),(240,.g 920),(239,.g 948),(235,.g 941),(119,.g 264),(96,.g 955),(220,.g 858),(244,.g 747),(243,.g 962),(111,.g 650),(112,.g 636),(114,.g 622),(241,.t [.s 162,.s 164,.s 163,.s 242,.s 68,.s 69]),(247,.g 986),(40,.g 142),(38,.g 123),(246,.g 104),(250,.g 997),(261,.g 1014),(266,.g 1009),(265,.g 1002),(34,.g 66),(273,.g 1146),(272,.g 1160),(274,.g 1167),(52,.g 257),(276,.g 1153),(218,.i 0 0),(99,.g 615),(109,.g 629),(101,.i 0 2),(36,.g 85),(281,.g 405),(283,.g 412),(280,.g 1202),(279,.g 424),(284,.g 419),(277,.g 1195),(287,.g 1293),(46,.g 162),(288,.g 1117),(293,.g 1223),(292,.g 1216),(291,.g 1209),(315,.g 1300),(310,.t [.t [.s 311,.s 286],.t [.s 312,.s 278],.t [.s 313,.s 61],.t [.s 314,.s 282]]),(206,.g 809),(309,.g 701),(308,.g 900),(307,.g 1174),(305,.g 1188),(304,.g 1181),(303,.g 1324),(302,.g 1312),(299,.g 1282),(298,.g 1106),(297,.g 604),(296,.g 225),(295,.g 1135),(306,.g 969),(318,.g 1338),(289,.g 1319)]
noncomputable def BQ:List Nat:=[45,66,85,123,142,162,225,583,604,701,809,1106,1135,1282]
noncomputable def BN(k:Nat):String:=match k with|0=>"len" |1=>"isinstance" |2=>"sorted" |6=>"max" |_=>"len"
noncomputable def TN(k:Nat):String:=match k with|0=>"int" |1=>"str" |2=>"tuple" |3=>"list" |5=>"range" |_=>"int"
noncomputable def vN(v:Value):Bool:=match v with|.none=>true|_=>false
noncomputable def vB(v:Value)(f:Bool->Bool):Bool:=match v with|.bool y=>f y|_=>false
noncomputable def vI(v:Value)(f:Int->Bool):Bool:=match v with|.int j _=>f j|_=>false
noncomputable def Vz(v:Value)(f:Str->Bool):Bool:=match v with|.str x _=>f x|_=>false
noncomputable def vR(v:Value)(f:Addr->Bool):Bool:=match v with|.ref j=>f j|_=>false
noncomputable def lN(d:Data)(f:Array Value->Bool):Bool:=match d with|.seq us _=>f us|_=>false
noncomputable def kO{I:Type}(o:Option I)(f:I->Bool):Bool:=match o with|some o=>f o|none=>false
noncomputable def Oh(K:Frag):Nat->AV->Value->Bool
 |0,_,_=>false|n+1,a,v=>match a with|.none=>vN v|.b x=>vB v λ y=>x==y|.i k o=>vI v λ j=>Nat.beq k 0&&wf o j|.s k=>Vz v λ x=>NM k==x|.g k=>vR v λ j=>Nat.beq k j|.t xs=>vR v λ j=>kO (K.lookup j) λ o=>lN o.data λ us=>aV (Oh K n) xs us.toList|_=>false
noncomputable def aB(a:AV)(f:Nat->Bool):Bool:=match a with|.bi k=>f k|_=>false
noncomputable def aY(a:AV)(f:Nat->Bool):Bool:=match a with|.ty k=>f k|_=>false
noncomputable def aG(a:AV)(f:Nat->Bool):Bool:=match a with|.g k=>f k|_=>false
noncomputable def aS(a:AV)(f:Nat->Bool):Bool:=match a with|.s k=>f k|_=>false
noncomputable def aI(a:AV)(f:Nat->Int->Bool):Bool:=match a with|.i k o=>f k o|_=>false
noncomputable def aT(a:AV)(f:List AV->Bool):Bool:=match a with|.t xs=>f xs|_=>false
noncomputable def Bl:Nat->AV->AV->Bool
 |0,_,_=>false|n+1,a,b=>match a with|.i k o=>aI b λ j p=>Nat.beq k j&&wf o p|.s k=>aS b (Nat.beq k)|.g k=>aG b (Nat.beq k)|.bi k=>aB b (Nat.beq k)|.ty k=>aY b (Nat.beq k)|.t xs=>aT b λ ys=>aV (Bl n) xs ys|_=>false
def ig(y:Str)(v:AV):GK:=match ZY.find? λ e=>NM e.1==y with
 |some e=>match Bl 6 e.2 v with|true=>.mod|false=>.no
 |none=>match SH.find? λ e=>NM e.1==y with
  |some e=>match Bl 6 e.2 v with|true=>.blt|false=>.no
  |none=>.no
def ja(x:Nat):Bool:=WN.any<|Nat.beq x
def Uf(c:Value)(q:Str):Bool:=vR c λ a=>kO (BK.find? λ p=>Nat.beq p.1 a) λ p=>p.2==q
noncomputable def QQ(dv:List AV):Bool:=match dv with|[]=>true|_::_=>false
def dfB(K:Frag)(dv:List AV)(d:Value):Bool:=(vN d&&QQ dv)||vR d λ t=>kO (K.lookup t) λ o=>lN o.data λ us=>aV (Oh K 6) dv us.toList
noncomputable def dFn(d:Data)(f:FuncData->Bool):Bool:=match d with|.func fd=>f fd|_=>false
noncomputable def bSt(b:FuncBody)(f:List Stmt->Bool):Bool:=match b with|.stmts b=>f b|_=>false
def ZE(K:Frag)(fa:Nat)(f:Fn):Bool:=kO (K.lookup fa) λ o=>dFn o.data λ fd=>bSt fd.body λ b=>Iq NM ig ja 60 f fd b&&(Uf fd.code fd.qualname&&dfB K f.dv fd.defaults)
noncomputable def ut{I:Type}:TR I->List (Nat×I)
 |.nil=>[]|.node v l r=>(match v with|some x=>[(0,x)]|none=>[])++((ut l).map (λ p=>(2*p.1+1,p.2))++(ut r).map λ p=>(2*p.1+2,p.2))
theorem eM:∀{t:TR I}{i:Nat}{x:I},t.get i=some x->(i,x)∈ut t
 |.nil,_,_,h=>nn h|.node v l r,i,x,h=>(ix i).rec (motive:=λ i _=>(TR.node v l r).get i=some x->(i,x)∈ut (.node v l r)) (λ h=>aU (by cases(show v=some x from h);exact m0))
  (λ k h=>aF<|aU<|List.mem_map.mpr ⟨(k,x),eM<|(TR.j7 (.node v l r) k).symm.trans h,rfl⟩)
  (λ k h=>aF<|aF<|List.mem_map.mpr ⟨(k,x),eM<|(TR.j6 (.node v l r) k).symm.trans h,rfl⟩) h
theorem Mz(P:Params):((ut Wz).all λ p=>match Nat.blt p.1 1358 with|true=>ZE (KF P) p.1 p.2|false=>true)=true:=by kernel_rfl
theorem Mt(P:Params):(ZY.all λ e=>kO ((hx P).nsMap 3<|NM e.1) λ u=>Oh (KF P) 6 e.2 u)=true:=by kernel_rfl
def E0(a:AV):Value:=match a with|.bi k=>.builtin (BN k)|.ty k=>.type (TN k)|_=>.none
theorem Mu(P:Params):SH.map (λ e=>((hx P).nsMap 3<|NM e.1,(hx P).nsMap 0<|NM e.1))=SH.map λ e=>(none,some<|E0 e.2):=by kernel_rfl
theorem HQ:(SH.all λ e=>aB e.2 (λ _=>true)||aY e.2 λ _=>true)=true:=by kernel_rfl
theorem RI(P:Params):BQ.map (λ C=>(clsIn (KF P) C).map (·.hasDict))=BQ.map λ _=>some true:=by kernel_rfl
theorem DO(P:Params):BQ.map (λ C=>(findIn (KF P) (.ref C) "__getattribute__",findIn (KF P) (.ref C) "__setattr__",findIn (KF P) (.ref C) "__getattr__"))=
  BQ.map λ _=>(some<|some<|.builtin "object.__getattribute__",some<|some<|.builtin "object.__setattr__",some none):=by kernel_rfl
theorem DM(P:Params):BQ.all (λ C=>plainOver (KF P) C&&makesIn (KF P) C&&keepIn (KF P) (.ref C)&&readsIn (KF P) C (.type "type"))=true:=by kernel_rfl
theorem LS(P:Params):BQ.map (λ C=>specialIn (KF P) (.ref C) "__getattribute__")=BQ.map λ _=>some (some<|.builtin "type.__getattribute__"):=by kernel_rfl
theorem Y6(P:Params):BQ.map (λ C=>WN.map λ x=>findIn (KF P) (.ref C)<|NM x)=BQ.map λ _=>WN.map λ _=>some none:=by kernel_rfl
theorem LZ(P:Params):(ut OQ).map (λ p=>p.2.init.map λ fa=>(Nat.blt fa 1358,findIn (KF P) (.ref p.1) "__init__",typeIn (KF P)<|.ref fa))=(ut OQ).map λ p=>p.2.init.map λ fa=>(true,some<|some<|.ref fa,some<|.type "function"):=by kernel_rfl
theorem LY(P:Params):(ut OQ).map (λ p=>p.2.meths.map λ m=>(Nat.blt m.2 1358,findIn (KF P) (.ref p.1)<|NM m.1,typeIn (KF P)<|.ref m.2,findCls (KF P) (.ref p.1) (.type "type")<|NM m.1))=
  (ut OQ).map λ p=>p.2.meths.map λ m=>(true,some<|some<|.ref m.2,some<|.type "function",some<|.val<|.ref m.2):=by kernel_rfl
theorem Y7:(ut OQ).all (λ p=>BQ.any<|Nat.beq p.1)=true:=by kernel_rfl
theorem RG(P:Params):jy.map (λ d=>(plainGet (KF P) d.1 "__class__",hasDictIn (KF P) d.1,findIn (KF P) (.ref d.1) "__class__",mroIn (KF P) d.1<|.type "object"))=
  jy.map λ _=>(true,true,some<|some<|.builtin "object.__class__",some true):=by kernel_rfl
theorem LX(P:Params):specialIn (KF P) (.builtin "object.__class__") "__get__" =some (some<|.builtin "getset_descriptor.__get__"):=by kernel_rfl
theorem LW(P:Params):takesIn (KF P) (.builtin "object.__class__")=some true:=by kernel_rfl
theorem RH(P:Params):jy.map (λ d=>jy.map λ c=>kitOne (KF P) (.ref d.1)<|.ref c.1)=jy.map λ d=>jy.map λ c=>some (d.2.any<|Nat.beq c.1):=by kernel_rfl
theorem LU(P:Params):jy.map (λ c=>["NoneType","int","str","tuple"].map λ T=>kitOne (KF P) (.type T)<|.ref c.1)=jy.map λ c=>["NoneType","int","str","tuple"].map λ T=>some false:=by kernel_rfl
theorem RJ(P:Params):[0,1,2,3].map (λ k=>(kitOne (KF P) (.type "int")<|.type<|TN k,kitOne (KF P) (.type "str")<|.type<|TN k,kitOne (KF P) (.type "tuple")<|.type<|TN k,kitOne (KF P) (.type "list")<|.type<|TN k))=
  [0,1,2,3].map λ k=>(some<|Nat.beq k 0,some<|Nat.beq k 1,some<|Nat.beq k 2,some<|Nat.beq k 3):=by kernel_rfl
noncomputable def ve(s:Str):Nat:=s.cps.toList.foldl (λ n c=>n*2097152+(c+1)) 0
theorem QS:ri ((ut Dc).map λ p=>ve p.2)=true:=by kernel_rfl
theorem QR:(ut Dc).all (λ p=>Nat.blt p.2.cps.size 1000)=true:=by kernel_rfl
noncomputable def OS(k:Nat):Str:=match k with|100=>Str.ofString "append" |101=>Str.ofString "extend" |102=>Str.ofString "pop" |103=>Str.ofString "get" |_=>Str.ofString "rfind"
theorem Dg:UY.map (λ p=>NM p.1)=UY.map (λ p=>OS p.2):=by kernel_rfl
theorem abv:OS 100=Str.ofString "append" :=by kernel_rfl
theorem abu:OS 101=Str.ofString "extend" :=by kernel_rfl
theorem abt:OS 102=Str.ofString "pop" :=by kernel_rfl
theorem abr:OS 103=Str.ofString "get" :=by kernel_rfl
theorem abq:OS 104=Str.ofString "rfind" :=by kernel_rfl
theorem QU:NB.map (λ q=>(NM q.2.2,Nat.ble 1 (NM q.1).length,Nat.ble 1 (NM q.2.1).length,Nat.ble ((NM q.1).length+(NM q.2.1).length) 1000))=NB.map λ q=>(NM q.1++NM q.2.1,true,true,true):=by kernel_rfl
theorem QT:Nr.map (λ q=>(Txt.rfind (NM q.1) (NM q.2.1):Int))=Nr.map λ q=>q.2.2:=by kernel_rfl
theorem bJ{l:List I}{f g:I->β}(h:l.map f=l.map g){a:I}(ha:a∈l):f a=g a:=List.map_inj_left.mp h a ha
def Zg(C:Nat):Bool:=BQ.any<|Nat.beq C
theorem iT(h:Zg C=true):C∈BQ:=by
 unfold Zg at h;rw[u8]at h;exact ft h
theorem Iz(h:ja C=true):C∈WN:=by
 unfold ja at h;rw[u8]at h;exact ft h
def bD(σ:Nat->Int)(τ:Nat->List Value)(ca:Nat->Obj)(ch:Nat->Nat->FuncData->Prop):Sy:=⟨NM,BN,TN,Zg,σ,τ,ca,ch⟩
def bI(cr:Nat->Nat->Option Int):Env:=⟨Wz,OQ,jy,KQ,NB,cr,20,0,λ _=>0,Nr,λ i=>match lk i UY with|some k=>k|none=>0,ja⟩
theorem uj{i:Nat}{x}(h:Dc.get i=some x):NM i=x:=by unfold NM;rw[h]
theorem uk{i:Nat}(h:Dc.get i=none):NM i=WA i:=by unfold NM;rw[h]
theorem fm{f:I->Nat}:∀{l:List I},(l.map f).Nodup->∀a∈l,∀b∈l,f a=f b->a=b:=by
 intro l
 induction l with|nil=>exactλ _ a ha=>nomatch ha|cons x l ih=>exactλ h a ha b hb e=>xA (jG h) λ h1 h2=>(bG ha).elim (λ z=>(bG hb).elim (λ y=>z.trans y.symm) λ hb=>absurd (List.mem_map.mpr ⟨b,hb,(z▸e).symm⟩) h1) λ ha=>(bG hb).elim (λ y=>absurd (List.mem_map.mpr ⟨a,ha,e.trans<|congrArg f y⟩) h1) λ hb=>ih h2 a ha b hb e
theorem qf(i:Nat):(WA i).cps.size=2000+i:=by simp[WA]
theorem N0{i:Nat}{x}(h:Dc.get i=some x):(NM i).cps.size<1000:=uj h▸dY (bV QR _<|eM h)
theorem jC:∀i j,NM i=NM j->i=j:=by
 have J:∀{i j:Nat}{x:Str},Dc.get i=none->Dc.get j=some x->NM i=NM j->i=j:=λ{i j x} hi B e=>absurd (N0 B)<|fe<|e▸uk hi▸qf i▸ae (by simp:1000<=2000) (bL _ _);intro i j e;cases hi:Dc.get i with
 |none=>cases B:Dc.get j with|none=>exact Nat.add_left_cancel ((qf i).symm.trans<|(congrArg (·.cps.size)<|(uk hi).symm.trans<|e.trans<|uk B).trans<|qf j)|some y=>exact J hi B e
 |some x=>cases B:Dc.get j with|none=>exact(J B hi e.symm).symm|some y=>exact(bx<|fm (f:=λ p:Nat×Str=>ve p.2) (iP QS) _ (eM hi) _ (eM B)<|congrArg ve<|(uj hi).symm.trans<|e.trans<|uj B).1
theorem Pa{v}(h:vN v=true):v=.none:=by cases v<;>first|rfl|exact ff h
@[elab_as_elim] theorem W5{M:Value->Prop}{v}{f:Bool->Bool}(h:vB v f=true)(k:∀x,f x=true->M (.bool x)):M v:=by
 cases v<;>first|exact k _ h|exact ff h
@[elab_as_elim] theorem W4{M:Value->Prop}{v}{f:Int->Bool}(h:vI v f=true)(k:∀x t,f x=true->M (.int x t)):M v:=by
 cases v<;>first|exact k _ _ h|exact ff h
@[elab_as_elim] theorem IV{M:Value->Prop}{v}{f:Str->Bool}(h:Vz v f=true)(k:∀x t,f x=true->M (.str x t)):M v:=by
 cases v<;>first|exact k _ _ h|exact ff h
@[elab_as_elim] theorem Gj{M:Value->Prop}{v}{f:Addr->Bool}(h:vR v f=true)(k:∀x,f x=true->M (.ref x)):M v:=by
 cases v<;>first|exact k _ h|exact ff h
theorem JQ{P:Prop}{d}{f:Array Value->Bool}(h:lN d f=true)(k:∀us n,d=.seq us n->f us=true->P):P:=by
 cases d<;>first|exact k _ _ rfl h|exact ff h
theorem Uj{P:Prop}{d}{f:FuncData->Bool}(h:dFn d f=true)(k:∀fd,d=.func fd->f fd=true->P):P:=by
 cases d<;>first|exact k _ rfl h|exact ff h
theorem U3{P:Prop}{d}{f:List Stmt->Bool}(h:bSt d f=true)(k:∀b,d=.stmts b->f b=true->P):P:=by
 cases d<;>first|exact k _ rfl h|exact ff h
theorem xZ{P:Prop}{o:Option I}{f:I->Bool}(h:kO o f=true)(k:∀x,o=some x->f x=true->P):P:=by
 cases o with|none=>exact ff h|some x=>exact k x rfl h
section
variable{M:AV->Prop}{a:AV}{f:Nat->Bool}
@[elab_as_elim] theorem NU(h:aB a f=true)(k:∀x,f x=true->M (.bi x)):M a:=by
 cases a<;>first|exact k _ h|exact ff h
@[elab_as_elim] theorem NS(h:aY a f=true)(k:∀x,f x=true->M (.ty x)):M a:=by
 cases a<;>first|exact k _ h|exact ff h
@[elab_as_elim] theorem Vb(h:aG a f=true)(k:∀x,f x=true->M (.g x)):M a:=by
 cases a<;>first|exact k _ h|exact ff h
@[elab_as_elim] theorem yG(h:aS a f=true)(k:∀x,f x=true->M (.s x)):M a:=by
 cases a<;>first|exact k _ h|exact ff h
@[elab_as_elim] theorem IC{f:Nat->Int->Bool}(h:aI a f=true)(k:∀x y,f x y=true->M (.i x y)):M a:=by
 cases a<;>first|exact k _ _ h|exact ff h
@[elab_as_elim] theorem Fo{f:List AV->Bool}(h:aT a f=true)(k:∀x,f x=true->M (.t x)):M a:=by
 cases a<;>first|exact k _ h|exact ff h
end
section
variable{Z:Sy}{K:Frag}{h:Heap}{G:Nat->Addr}{m:Nat}
theorem vd:∀{xs:List I}{ys:List β},aV f xs ys=true->∀(i:Nat)(x:I)(y:β),xs[i]?=some x->ys[i]?=some y->f x y=true:=by
 intro xs
 induction xs with|nil=>exactλ _ i x y e _=>nomatch e|cons a xs ih=>exactλ hs=>q5 hs λ b l c1 c2 i=>match i with|0=>λ x y B J=>sI B▸sI J▸c1|i+1=>λ x y B J=>ih c2 i x y B J
theorem ml(B:Z.nm=NM)(z0:Z.σ 0=0)(X:K.In h)(T:∀j o us k,K.lookup j=some o->o.data=.seq us k->o.cls=.type "tuple"):∀{n:Nat}{a:AV}{v:Value},Oh K n a v=true->VR Z G m h a v:=by
 intro n
 induction n with|zero=>exactλ e=>ff e|succ n ih=>
  intro a v e;cases a with|none=>exact Pa e▸.none|b x=>exact W5 e λ y e=>eq_of_beq e▸.b _|i k o=>exact W4 e λ j t e=>bC (aL e)▸.i' (z0.symm▸((PySem.W.Z.eqB_iff _ _).mp<|aR e).symm.trans (Int.zero_add _).symm)|s k=>exact IV e λ x t e=>eq_of_beq e▸B▸.s _ _|g k=>exact Gj e λ j e=>bC e▸.g _|t xs=>exact Gj e λ j e=>xZ e λ o ho e=>JQ e λ us k hd e=>.t xs us.toList j o k (X _ _ ho) (T _ _ _ _ ho hd) (hd.trans<|congrArg (Data.seq · k) Array.toArray_toList.symm) (c_ e) λ i x y hx J=>ih (vd e i x y hx J)|_=>exact ff e
theorem GG{f:I->I->Bool}(H:∀{a b},f a b=true->a=b):∀{xs ys:List I},aV f xs ys=true->xs=ys:=by
 intro xs
 induction xs with|nil=>exactλ e=>uy e rfl|cons a xs ih=>exactλ e=>q5 e λ b l c1 c2=>H c1▸ih c2▸rfl
theorem qi:∀{n:Nat}{a b:AV},Bl n a b=true->a=b:=by
 intro n
 induction n with|zero=>exactλ e=>ff e|succ n ih=>
  intro a b e;cases a with|i k o=>exact IC e λ j p e=>bC (aL e)▸(PySem.W.Z.eqB_iff _ _).mp (aR e)▸rfl|s k=>exact yG e λ j e=>bC e▸rfl|g k=>exact Vb e λ j e=>bC e▸rfl|bi k=>exact NU e λ j e=>bC e▸rfl|ty k=>exact NS e λ j e=>bC e▸rfl|t xs=>exact Fo e λ ys e=>GG ih e▸rfl|_=>exact ff e
end
variable{τ:Nat->List Value}{cr:Nat->Nat->Option Int}
theorem LP(P:Params):(KF P).map (λ p=>match p.2.data with|.seq _ _=>p.2.cls|_=>.type "tuple")=(KF P).map λ _=>.type "tuple" :=by kernel_rfl
theorem xW{P}:∀j o us k,(KF P).lookup j=some o->o.data=.seq us k->o.cls=.type "tuple" :=λ j o us k e hd=>by
 have:=bJ (LP P)<|tz e;dsimp only at this;rw[hd]at this;exact this
section
variable{σ:Nat->Int}{ca:Nat->Obj}{ch:Nat->Nat->FuncData->Prop}
theorem HM(z0:σ 0=0):yM (bD σ τ ca ch) ig:=by
 intro w h R y v;have g3:h.isNs 3=true:=(dU R.zW).trans<|nt _;have O:h.isNs 0=true:=(dU R.WM).trans<|Jk _;unfold ig;cases e:ZY.find? λ e=>NM e.1==y with
 |some q=>
  have hm:=jb e;have B:NM q.1=y:=eq_of_beq<|List.find?_some (p:=λ e:Nat×AV=>NM e.1==y) e;dsimp only;cases c:Bl 6 q.2 v with|false=>trivial|true=>exact xZ (bV (Mt w.params) q hm) λ u hu t=>(fc (h.nsMap 3) u (.of_isNs g3) ((d7 R.zW▸B▸hu:h.nsMap 3 y=some u))<|λ G n=>qi c▸ml rfl z0 (mL R) xW t)
 |none=>
  dsimp only;cases J:SH.find? λ e=>NM e.1==y with|none=>trivial|some q=>
   have hm:=jb J;have B:NM q.1=y:=eq_of_beq<|List.find?_some (p:=λ e:Nat×AV=>NM e.1==y) J;dsimp only;cases c:Bl 6 q.2 v with|false=>trivial|true=>exact xA (bx<|bJ (Mu w.params) hm) λ h1 h2=>(iA (h.nsMap 3) (h.nsMap 0) (E0 q.2) (.of_isNs g3) ((d7 R.zW▸B▸h1:h.nsMap 3 y=none)) (.of_isNs O) ((d7 R.WM▸B▸h2:h.nsMap 0 y=some (E0 q.2))) (λ G n=>qi c▸
    (Bool.or_eq_true_iff.mp<|bV HQ q hm).elim (λ k=>NU (M:=λ a=>VR _ G n h a<|E0 a) k λ _ _=>.bi _) λ k=>NS (M:=λ a=>VR _ G n h a<|E0 a) k λ _ _=>.ty _))
theorem Mo:[0,1,2,3,4,5,6].map (λ k=>handedIn<|.builtin<|BN k)=[0,1,2,3,4,5,6].map λ _=>true:=by kernel_rfl
theorem HF(k:Nat):handedIn (.builtin<|BN k)=true:=by
 have H:=λ k B=>bJ Mo (a:=k) B;unfold BN;split
 .exact H 0 m0
 .exact H 1 m1
 .exact H 2 m2
 .exact H 6 m6
 .exact H 0 m0
theorem Nx:rR (bD σ τ ca ch) ja where
 cls:=λ P C B=>by
  have:=bJ (RI P)<|iT B;refine a8 (Option.map_eq_some_iff.mp this) λ cd h1 h2=>?_;exact⟨cd,h1,h2⟩
 get:=λ P C B=>(bx<|bJ (DO P)<|iT B).1
 set:=λ P C B=>(bx (bx<|bJ (DO P)<|iT B).2).1
 over:=λ P C B=>by
  have:=bV (DM P) C<|iT B;simp only[Bool.and_eq_true]at this;exact this.1.1.1
 hand:=HF
 no:=λ P C x B hx=>bJ (bJ (Y6 P)<|iT B)<|Iz hx
theorem zQ{w}{h:Heap}(R:Ready w h){c}{q}(e:Uf c q=true):h.CodeRec c q:=
 Gj (M:=λ c=>h.CodeRec c q) e λ a e=>xZ e λ p hp e=>bC (List.find?_some (p:=λ p:Nat×Str=>Nat.beq p.1 a) hp)▸eq_of_beq e▸R.codes p (jb hp)
theorem QP{dv}(h:QQ dv=true):dv=[]:=by cases dv with|nil=>rfl|cons _ _=>exact ff h
theorem SI(z0:σ 0=0){w}{h}(R:Ready w h){f}(B:Wz.get fa=some f)(wb:Nat.blt fa 1358=true)(G:Nat->Addr)(n:Nat):FnAt (bD σ τ ca ch) (bI cr) ig ja G n h fa fa []:=by
 have X:=mL R;have t:(match Nat.blt fa 1358 with|true=>ZE (KF w.params) fa f|false=>true)=true:=bV (Mz w.params) _<|eM B;rw[wb]at t;refine xZ t λ o h1 t=>Uj t λ fd h2 t=>U3 t λ b O t=>(Bool.or_eq_true_iff.mp<|aR<|aR t).elim (λ d=>⟨o,fd,f,b,[],none,X _ _ h1,h2,B,O,aL t,zQ R<|aL<|aR t,λ M=>Pa (aL d)▸Looks.of_pure rfl,rfl,QP (aR d)▸.nil,λ x c e=>nn e⟩) λ d=>?_;refine Gj (M:=λ d=>fd.defaults=d->_) d (λ j d J=>xZ d λ ot xd d=>JQ d λ us k eZ d=>?_) rfl;refine⟨o,fd,f,b,us.toList,some us,X _ _ h1,h2,B,O,aL t,zQ R<|aL<|aR t,λ M=>J▸ ?_,Array.toArray_toList.symm,⟨c_ d,λ i x y hx hy=>ml rfl z0 X xW<|vd d i x y hx hy⟩,λ x c e=>nn e⟩;unfold seqItems?;refine(Looks.ld (part:=none)<|X _ _ xd).andThen ?_;rw[eZ];exact .now
theorem da{x:Nat}{v:I}:∀{l:List<|Nat×I},lk x l=some v->(x,v)∈l:=by
 intro l
 induction l with|nil=>exactλ h=>nn h|cons p l ih=>exactλ h=>if hp:p.1=x then hp▸sI ((if_pos hp).symm.trans<|(eJ x p l).symm.trans h)▸.head _ else .tail _ (ih<|(if_neg hp).symm.trans<|(eJ x p l).symm.trans h)
theorem EY(z0:σ 0=0)(w:World):Calls (bD σ τ ca ch) w (bI cr) ig ja where
 fn:=λ fa f hf wb h R G n=>SI z0 R hf wb G n
 cl:=λ C cl B=>by
  have hm:=bV Y7 _<|eM B;have J:=iT hm;have:=bV (DM w.params) C J;simp only[Bool.and_eq_true]at this;exact⟨hm,this.1.1.2,this.1.2,bJ (LS w.params) J,this.2⟩
 ga:=λ C O=>(bx (bx<|bJ (DO w.params)<|iT O).2).2
 init:=λ C cl fa B hi=>by
  have:=bJ (LZ w.params)<|eM B;dsimp only at this;rw[hi]at this;have:=Option.some.inj this;refine xA (bx this) λ a b=>?_;refine xA (bx b) λ b c=>?_;exact⟨a,b,c⟩
 Ly:=λ C cl x fa B hx=>by
  have:=bJ (LY w.params)<|eM B;dsimp only at this;have hm:(x,fa)∈cl.meths:=da hx;have:=bJ this hm;refine xA (bx this) λ a b=>?_;refine xA (bx b) λ b c=>?_;refine xA (bx c) λ c d=>?_;exact⟨a,b,c,d⟩
theorem L1:Fy (bD σ τ ca ch) (bI cr)where
 own:=λ P D l hl=>by
  have:=bJ (RG P)<|da hl;refine xA (bx this) λ a b=>?_;refine xA (bx b) λ b c=>?_;refine xA (bx c) λ c d=>?_;exact⟨a,b,c,LX P,LW P,d⟩
 one:=λ P D l C l' h1 h2=>bJ (bJ (RH P)<|da h1) (da h2)
 prim:=λ P C l h T hT=>bJ (bJ (LU P)<|da h) hT
 UU:=λ P k B=>by
  have hm:k∈[0,1,2,3]:=by simp;lia
  have:=bJ (RJ P) hm;refine xA (bx this) λ a b=>?_;refine xA (bx b) λ b c=>?_;refine xA (bx c) λ c d=>?_;exact⟨a,b,c,d⟩
theorem Nq:FH (bD σ τ ca ch) (bI cr):=λ q B=>bJ QT B
theorem wO(i k:Nat)(h:(bI cr).bn i=k)(B:100<=k):(i,k)∈UY:=by
 have h:(match lk i UY with|some k=>k|none=>0)=k:=h;split at h
 .rename_i j e;subst h;exact da e
 .lia
theorem NA:∀q∈(bI cr).cat,(bD σ τ ca ch).nm q.2.2=(bD σ τ ca ch).nm q.1++(bD σ τ ca ch).nm q.2.1/\((bD σ τ ca ch).nm q.1).length≠0/\((bD σ τ ca ch).nm q.2.1).length≠0/\((bD σ τ ca ch).nm q.1).length+((bD σ τ ca ch).nm q.2.1).length<=1000:=λ q B=>by
 have:=bJ QU B;refine xA (bx this) λ a b=>?_;refine xA (bx b) λ b c=>?_;refine xA (bx c) λ c d=>?_;have b:=dY b;have c:=dY c;exact⟨a,cV b,cV c,dY d⟩
end
noncomputable def Uk(d:Data)(f:List DictEntry->Bool):Bool:=match d with|.dict es _=>f es.toList|_=>false
def MG(K:Frag)(j:Nat)(f:List DictEntry->Bool):Bool:=kO (K.lookup j) λ o=>Uk o.data f
noncomputable def HV(K:Frag)(j:Nat):Option (Value×Option Addr×Array (Option Value)):=(K.lookup j).map λ o=>(o.cls,o.dict,o.slots)
noncomputable def wv(P:Params)(x:Str):Int:=if x.cps.isEmpty=true then 0 else reduceHash (P.strHash x.cps)
noncomputable def pS(e:DictEntry):Str:=match e.key with|.str x _=>x|_=>default
theorem abm(P:Params):KQ.map (λ d=>HV (KF P) d.1)=KQ.map λ _=>some (.type "dict",none, #[]):=by kernel_rfl
theorem Nn(P:Params):KQ.map (λ d=>((KF P).lookup d.1).map λ o=>match o.data with|.dict es _=>es.toList.map (·.hash)|_=>[])=KQ.map λ d=>((KF P).lookup d.1).map λ o=>match o.data with|.dict es _=>es.toList.map λ e=>wv P (pS e)|_=>[]:=by kernel_rfl
theorem Ui(P:Params):KQ.all (λ d=>MG (KF P) d.1 λ es=>ri (es.map λ e=>ve<|pS e)&&
  aV (λ(p:AV×AV)(e:DictEntry)=>Vz e.key (λ x=>aS p.1 λ k=>NM k==x)&&Oh (KF P) 6 p.2 e.val) d.2 es)=true:=by kernel_rfl
theorem abl:KQ.all (λ d=>Nat.blt 1 d.1)=true:=by kernel_rfl
theorem Np{P:Prop}{d}{f:List DictEntry->Bool}(h:Uk d f=true)(k:∀us n,d=.dict us n->f us.toList=true->P):P:=by
 cases d<;>first|exact k _ _ rfl h|exact ff h
section
variable{σ:Nat->Int}{ca:Nat->Obj}{ch:Nat->Nat->FuncData->Prop}
def SdR(Z:Sy)(w:World)(G:Nat->Addr)(n:Nat)(h:Heap)(as:List<|AV×AV)(l:List DictEntry):Prop:=(∀e∈l,∃x,(strKind pw w).is x e.key=true/\e.hash=wv w.params x)/\Pairs (strKind pw w) l (l.map λ e=>(pS e,e.val))/\mh (SK Z) Z G n h as (l.map λ e=>(pS e,e.val))
theorem GH{w:World}{h}{G:Nat->Addr}{n:Nat}(z0:σ 0=0)(X:Frag.In (KF w.params) h){as}:∀{l:List DictEntry},aV (λ(p:AV×AV)(e:DictEntry)=>Vz e.key (λ x=>aS p.1 λ k=>NM k==x)&&Oh (KF w.params) 6 p.2 e.val) as l=true->(∀e∈l,e.hash=wv w.params (pS e))->
  SdR (bD σ τ ca ch) w G n h as l:=by
 induction as with|nil=>exactλ hs _=>uy hs ⟨λ e B=>(nomatch B),.nil,.nil⟩|cons p as ih=>
  refineλ hs hh=>q5 (M:=λ l=>(∀e∈l,e.hash=wv w.params (pS e))->SdR (bD σ τ ca ch) w G n h (p::as) l) hs (λ e l c1 c2 hh=>xA (List.forall_mem_cons.mp hh) λ h1 h2=>ib (ih c2 h2) λ i1 J O=>?_) hh;have t:∃x t,e.key=.str x t/\aS p.1 (λ k=>NM k==x)=true:=IV (M:=λ v=>∃x t,v=.str x t/\aS p.1 (λ k=>NM k==x)=true) (aL c1) λ x t c=>⟨x,t,rfl,c⟩;refine b8 t λ x t ek c=>?_;have kx:pS e=x:=by unfold pS;rw[ek]
  have is:(strKind pw w).is (pS e) e.key=true:=kx▸ek▸if_pos rfl;exact⟨List.forall_mem_cons.mpr ⟨⟨_,is,h1⟩,i1⟩,.cons is rfl J,.cons ⟨yG (M:=λ a=>SK _ a<|pS e) c λ k c=>⟨k,rfl,kx.trans (eq_of_beq c).symm⟩,ml rfl z0 X xW<|aR c1⟩ O⟩
theorem I9(z0:σ 0=0):yI (bD σ τ ca ch) (bI cr):=by
 intro j es J;have hm:=da J;refine⟨dY<|bV abl _ hm,λ w h R G n=>xZ (bV (Ui w.params) _ hm) λ o ho k=>Np k λ dG ep hd k=>?_⟩;refine a8 (Option.map_eq_some_iff.mp<|bJ (abm w.params) hm) λ o' O hx=>?_;obtain rfl:=sI<|ho.symm.trans O;have hh:dG.toList.map (·.hash)=dG.toList.map λ e=>wv w.params (pS e):=by
  have:=bJ (Nn w.params) hm;dsimp only at this ho;rw[ho]at this;have:=sI this;dsimp only at this;rw[hd]at this;exact this
 refine ib (GH (G:=G) (n:=n) (τ:=τ) (ca:=ca) (ch:=ch) z0 (mL R) (aR k) λ e B=>bJ hh B) λ k1 k2 k3=>?_;refine .str _ ⟨o,dG,ep,mL R _ _ ho,⟨(bx hx).1,(bx (bx hx).2).1,(bx (bx hx).2).2⟩,hd,λ e B=>k1 e<|Array.mem_toList_iff.mpr B,k2,?_⟩ k3;exact List.map_map.symm▸List.pairwise_map.mpr ((List.pairwise_map.mp<|iP<|aL k).imp λ h e=>h<|congrArg ve e)
end
structure iH(σ:Nat->Int)(τ:Nat->List Value)(cr:Nat->Nat->Option Int):Prop where
 z0:σ 0=0
 ord:∀v w,0<v->v<w->w<900->σ v<σ w
 low:∀v,0<v->v<900->20<σ v
 high:∀v,v<900->σ v<=90000
 free:∀v,900<=v->v<1800->0<=σ v/\σ v<=5000
 cr:∀v m x,cr v m=some x->m≠0/\(σ v).emod m=x
 seg:∀k,(τ k).length<=10000
section
variable{σ:Nat->Int}{ca:Nat->Obj}{ch:Nat->Nat->FuncData->Prop}
theorem Kj(S:iH σ τ cr):fi (bD σ τ ca ch) (bI cr):=⟨S.z0,S.ord,S.low,S.high,S.free,S.cr,NA,S.seg⟩
theorem oW(S:iH σ τ cr):jp (bD σ τ ca ch) (bI cr) ig (bI cr).an:=
 ⟨Kj S,jC,Nx,I9 S.z0,HM S.z0,rfl,rfl,rfl,rfl,rfl,rfl,rfl,rfl,rfl⟩
theorem W2(S:iH σ τ cr)(C:kV (bD σ τ ca ch) (bI cr) ig ja)(w:World):h_ (bD σ τ ca ch) w (bI cr) ig where
 r:=oW S
 c:=EY S.z0 w
 k:=C
 b:=U1 (oW S) L1
 t:=Kr rfl
 m:=Dn (Kj S) jC (I9 S.z0) Nq (λ x h=>(bJ Dg<|wO x 100 h (by decide)).trans abv) (λ x h=>(bJ Dg<|wO x 101 h (by decide)).trans abu) (λ x h=>(bJ Dg<|wO x 102 h (by decide)).trans abt) (λ x h=>(bJ Dg<|wO x 103 h (by decide)).trans abr)<|λ x h=>(bJ Dg<|wO x 104 h (by decide)).trans abq
theorem qg(S:iH σ τ cr)(C:kV (bD σ τ ca ch) (bI cr) ig ja)(w:World)(n:Nat):FI (bD σ τ ca ch) w (bI cr) ig n (ev (bI cr) n):=
 Fg (W2 S C w) (L5<|Kj (ca:=ca) (ch:=ch) S) n
end
noncomputable def aN(a:AV):Bool:=match a with|.none=>true|_=>false
noncomputable def aO(a:AV)(f:Bool->Bool):Bool:=match a with|.b x=>f x|_=>false
noncomputable def aQ(a:AV)(f:Nat->Bool):Bool:=match a with|.r k=>f k|_=>false
noncomputable def R5(o:AO)(f:Nat->Nat->Bool):Bool:=match o with|.inst c d=>f c d|_=>false
noncomputable def P_(o:AO)(f:List (Nat×AV)->Bool):Bool:=match o with|.ns es=>f es|_=>false
noncomputable def RX(o:AO)(f:List AV->Bool):Bool:=match o with|.list es=>f es|_=>false
noncomputable def TV(o:AO)(f:List (AV×AV)->Bool):Bool:=match o with|.dict es=>f es|_=>false
noncomputable def Rq(o:AO)(f:List (AV×Option AV)->Bool):Bool:=match o with|.map es=>f es|_=>false
noncomputable def Wf(o:AO)(f:Option AV->Bool):Bool:=match o with|.cell v=>f v|_=>false
noncomputable def VC(o:AO)(f:Nat->List (Nat×Nat)->Nat->Nat->Bool):Bool:=match o with|.ch a b c d=>f a b c d|_=>false
noncomputable def R_(o:AO)(f:Nat->Bool):Bool:=match o with|.ca v=>f v|_=>false
noncomputable def P1(o:AO)(f:List AV->Nat->Nat->List AV->Bool):Bool:=match o with|.seg p k lv q=>f p k lv q|_=>false
section
variable{M:AV->Prop}{a:AV}
@[elab_as_elim] theorem abC(h:aN a=true)(k:M .none):M a:=by cases a<;>first|exact k|exact ff h
@[elab_as_elim] theorem abB{f:Bool->Bool}(h:aO a f=true)(k:∀x,f x=true->M (.b x)):M a:=by cases a<;>first|exact k _ h|exact ff h
@[elab_as_elim] theorem abA{f:Nat->Bool}(h:aQ a f=true)(k:∀x,f x=true->M (.r x)):M a:=by cases a<;>first|exact k _ h|exact ff h
end
section
variable{M:AO->Prop}{o:AO}
@[elab_as_elim] theorem Qv{f}(h:R5 o f=true)(k:∀c d,f c d=true->M (.inst c d)):M o:=by cases o<;>first|exact k _ _ h|exact ff h
@[elab_as_elim] theorem Qr{f}(h:P_ o f=true)(k:∀c,f c=true->M (.ns c)):M o:=by cases o<;>first|exact k _ h|exact ff h
@[elab_as_elim] theorem Qu{f}(h:RX o f=true)(k:∀c,f c=true->M (.list c)):M o:=by cases o<;>first|exact k _ h|exact ff h
@[elab_as_elim] theorem Qx{f}(h:TV o f=true)(k:∀c,f c=true->M (.dict c)):M o:=by cases o<;>first|exact k _ h|exact ff h
@[elab_as_elim] theorem Qt{f}(h:Rq o f=true)(k:∀c,f c=true->M (.map c)):M o:=by cases o<;>first|exact k _ h|exact ff h
@[elab_as_elim] theorem Qz{f}(h:Wf o f=true)(k:∀c,f c=true->M (.cell c)):M o:=by cases o<;>first|exact k _ h|exact ff h
@[elab_as_elim] theorem Qy{f}(h:VC o f=true)(k:∀a b c d,f a b c d=true->M (.ch a b c d)):M o:=by cases o<;>first|exact k _ _ _ _ h|exact ff h
@[elab_as_elim] theorem Qw{f}(h:R_ o f=true)(k:∀c,f c=true->M (.ca c)):M o:=by cases o<;>first|exact k _ h|exact ff h
@[elab_as_elim] theorem Qq{f}(h:P1 o f=true)(k:∀a b c d,f a b c d=true->M (.seg a b c d)):M o:=by cases o<;>first|exact k _ _ _ _ h|exact ff h
end
section
variable(oi:Nat->Nat->Bool)(oj:Nat->Int->Nat->Int->Bool)(os:Nat->Nat->Nat->Nat->Bool)
noncomputable def eW:Nat->AV->AV->Bool
 |0,_,_=>false|n+1,a,b=>match a with|.none=>aN b|.b x=>aO b λ y=>x==y|.i v o=>aI b (oj v o)|.s k=>aS b (Nat.beq k)|.r j=>aQ b (oi j)|.g k=>aG b (Nat.beq k)|.bi k=>aB b (Nat.beq k)|.ty k=>aY b (Nat.beq k)|.t xs=>aT b λ ys=>aV (eW n) xs ys
def AH(a b:Option AV):Bool:=match a with|none=>Hv b|some x=>qS (eW oi oj 6 x) b
def Yf:List (Nat×Nat)->List (Nat×Nat)->Bool:=aV λ p q=>Nat.beq p.1 q.1&&oi p.2 q.2
def mB(a b:AO):Bool:=match a with|.inst c d=>R5 b λ c' B=>Nat.beq c c'&&oi d B|.ns es=>P_ b λ fs=>aV (λ p q=>Nat.beq p.1 q.1&&eW oi oj 6 p.2 q.2) es fs|.list xs=>RX b λ ys=>aV (eW oi oj 6) xs ys|.dict es=>TV b λ fs=>aV (λ p q=>eW oi oj 6 p.1 q.1&&eW oi oj 6 p.2 q.2) es fs|.map es=>Rq b λ fs=>aV (λ p q=>eW oi oj 6 p.1 q.1&&AH oi oj p.2 q.2) es fs|.cell v=>Wf b λ u=>AH oi oj v u|.ch f cs c k=>VC b λ f' cs' c' k'=>Nat.beq f f'&&Nat.beq k k'&&oi c c'&&Yf oi cs cs'|.ca k=>R_ b λ k'=>Nat.beq k k'|.seg p k lv q=>P1 b λ O k' J q'=>os k lv k' J&&aV (eW oi oj 6) p O&&aV (eW oi oj 6) q q'
end
structure uH(oi:Nat->Nat->Bool)(oj:Nat->Int->Nat->Int->Bool)(Z Z':Sy)(G ay:Nat->Addr)(n':Nat):Prop where
 nm:Z'.nm=Z.nm
 bn:Z'.bn=Z.bn
 tn:Z'.tn=Z.tn
 ic:Z'.ic=Z.ic
 ca:Z'.ca=Z.ca
 ch:Z'.ch=Z.ch
 i:∀a a',oi a a'=true->ay a'=G a/\a'<n'
 j:∀v o v' o',oj v o v' o'=true->Z'.σ v'+o'=Z.σ v+o
variable{Z':Sy}{fs:List<|AV×Option AV}
section
variable{oi:Nat->Nat->Bool}{oj:Nat->Int->Nat->Int->Bool}{Z:Sy}{G:Nat->Addr}{n:Nat}{h:Heap}{w:World}
theorem CB:∀{k:List I}{l:List β},aV f k l=true->F2 (λ a b=>f a b=true) k l:=by
 intro k
 induction k with|nil=>exactλ h=>uy h .nil|cons a k ih=>exactλ h=>q5 h λ b l c1 c2=>.cons c1<|ih c2
theorem F2.comp{P:I->β->Prop}{Q:I->γ->Prop}{S:β->γ->Prop}(H:∀a b c,P a b->Q a c->S b c){k:List I}{l:List β}(x:F2 P k l):∀{m:List γ},F2 Q k m->F2 S l m:=by
 induction x with
 |nil=>intro m y;cases y;exact .nil
 |cons p _ ih=>intro m y;cases y with|cons q y=>exact .cons (H _ _ _ p q)<|ih y
theorem F2.mem{P:I->β->Prop}{k:List I}{l:List β}(x:F2 P k l):∀b∈l,∃a∈k,P a b:=by
 induction x with|nil=>exactλ _ h=>nomatch h|cons p _ ih=>exact List.forall_mem_cons.mpr ⟨⟨_,.head _,p⟩,λ b h=>a8 (ih b h) λ a h q=>⟨a,.tail _ h,q⟩⟩
theorem CA{g:I->β->Bool}{k:Nat}{P:Option I->Option β->Prop}(p0:P none none)(p1:∀x y,g x y=true->P (some x) (some y)):∀{es:List<|Nat×I}{fs:List<|Nat×β},aV (λ p q=>Nat.beq p.1 q.1&&g p.2 q.2) es fs=true->P (lk k es) (lk k fs):=by
 intro es
 induction es with|nil=>exactλ h=>uy h p0|cons p es ih=>
  refineλ h=>q5 h λ q fs c1 c2=>eJ k p es▸eJ k q fs▸bC (aL c1)▸ ?_;by_cases B:p.1=k
  .exact if_pos B▸if_pos B▸p1 _ _ (aR c1)
  .exact if_neg B▸if_neg B▸ih c2
theorem br.Rd{m B:Nat}(ih:∀{x y v},eW oi oj n x y=true->VR Z G m h x v->VR Z' ay B h y v):∀{xs ys:List AV}{ws:List Value},aV (eW oi oj n) xs ys=true->br Z G m h xs ws->br Z' ay B h ys ws:=by
 intro xs
 induction xs with|nil=>exactλ e V=>uy e (V.vH .nil)|cons x xs i=>exactλ e V=>q5 e λ y ys c1 c2=>V.Ah λ v vs a b=>.cons (ih c1 a)<|i c2 b
theorem VR.ie(F:uH oi oj Z Z' G ay n'){m:Nat}:∀{n:Nat}{x y:AV}{v:Value},eW oi oj n x y=true->VR Z G m h x v->VR Z' ay n' h y v:=by
 intro n
 induction n with|zero=>exactλ e=>ff e|succ n ih=>
  intro x y v e;cases x with|none=>exact abC e λ V=>V.Zd .none|b x=>exact abB e λ y e V=>eq_of_beq e▸(VR.un V:v=_)▸.b _|i k o=>exact IC e λ k' o' e V=>V.RS λ t=>.i' (F.j _ _ _ _ e).symm|s k=>exact yG e λ k' e V=>xE (VR.un V:∃t,v=.str (Z.nm k) t) λ t z=>z▸bC e▸F.nm▸.s _ t|r j=>exact abA e λ B e V=>V.inR λ _=>(F.i _ _ e).1▸.r _ (F.i _ _ e).2|g a=>exact Vb e λ k' e V=>(VR.un V:v=_)▸bC e▸.g _|bi k=>exact NU e λ k' e V=>(VR.un V:v=_)▸bC e▸F.bn▸.bi _|ty k=>exact NS e λ k' e V=>(VR.un V:v=_)▸bC e▸F.tn▸.ty _|t xs=>exact Fo e λ ys e V=>V.qT λ ws a o m ho hc hd W=>xA (br.Rd ih e W) λ l p=>.t ys ws a o m ho hc hd l p
theorem br.ie(F:uH oi oj Z Z' G ay n')(H:br Z G n h xs ws)(e:aV (eW oi oj 6) xs ys=true):br Z' ay n' h ys ws:=br.Rd (VR.ie F) e H
def Vi(Z:Sy)(G:Nat->Addr)(n:Nat)(h:Heap)(dG:Array DictEntry)(x:Str)(y:Option AV):Prop:=match y with|some y=>∃v,nsFind dG x=some v/\VR Z G n h y v|none=>nsFind dG x=none
theorem rN.ie(F:uH oi oj Z Z' G ay n'){fs}{a:Addr}(H:rN Z G n h es a)(e:aV (λ p q=>Nat.beq p.1 q.1&&eW oi oj 6 p.2 q.2) es fs=true):rN Z' ay n' h fs a:=
 bA H λ o dG ep ho hd hs hl hm=>⟨o,dG,ep,ho,hd,hs,c_ e▸hl,λ k=>F.nm▸CA (k:=k) (P:=λ x y=>Vi Z G n h dG (Z.nm k) x->Vi Z' ay n' h dG (Z.nm k) y) id (λ x y m t=>a8 t λ v hv r=>⟨v,hv,r.ie F m⟩) e (hm k)⟩
theorem IK.ie(F:uH oi oj Z Z' G ay n'){x}{i:Int}(H:IK Z x i)(e:eW oi oj 6 x y=true):IK Z' y i:=
 b8 H λ v o z hi=>IC (M:=λ y=>IK Z' y i) ((congrArg (eW oi oj 6 · y) z).symm.trans e:aI y (oj v o)=true) λ v' o' e=>⟨v',o',rfl,hi.trans (F.j _ _ _ _ e).symm⟩
theorem SK.ie(F:uH oi oj Z Z' G ay n'){x}{i}(H:SK Z x i)(e:eW oi oj 6 x y=true):SK Z' y i:=
 a8 H λ k z hi=>yG (M:=λ y=>SK Z' y i) ((congrArg (eW oi oj 6 · y) z).symm.trans e:aS y (Nat.beq k)=true) λ k' e=>⟨k',rfl,bC e▸F.nm▸hi⟩
theorem Dp{n:Nat}:∀{B:List Nat}{ys:List AV},aV (eW oi oj<|n+1) (B.map .s) ys=true->ys=B.map .s:=by
 intro B
 induction B with|nil=>exactλ h=>uy h rfl|cons j B ih=>exactλ h=>q5 h λ y l c1 c2=>yG (M:=λ y=>y::l=(j::B).map .s) c1 λ k e=>bC e▸congrArg (AV.s j:: ·) (ih c2)
theorem MK.ie(F:uH oi oj Z Z' G ay n'){x}{i}(H:MK Z x i)(e:eW oi oj 6 x y=true):MK Z' y i:=
 b8 H λ k B z hi=>Fo (M:=λ y=>MK Z' y i) ((congrArg (eW oi oj 6 · y) z).symm.trans e:aT y (λ ys=>aV (eW oi oj 5) [.s k,.t<|B.map .s] ys)=true) λ ys e=>q5 (M:=λ ys=>MK Z' (.t ys) i) e λ a l c1 e=>q5 (M:=λ l=>MK Z' (.t (a::l)) i) e λ b l c2 e=>uy (M:=λ l=>MK Z' (.t (a::b::l)) i) e
  (yG (M:=λ a=>MK Z' (.t [a,b]) i) c1 λ k' c1=>Fo (M:=λ b=>MK Z' (.t [.s k',b]) i) c2 λ zs c2=>Dp c2▸⟨k',B,rfl,bC c1▸F.nm▸hi⟩)
theorem mh.ie{K:Type}{R R':AV->K->Prop}(F:uH oi oj Z Z' G ay n')(B:∀{x y i},R x i->eW oi oj 6 x y=true->R' y i){es fs}{kvs}(H:mh R Z G n h es kvs)(e:aV (λ p q=>eW oi oj 6 p.1 q.1&&eW oi oj 6 p.2 q.2) es fs=true):mh R' Z' ay n' h fs kvs:=
 (CB e).comp (λ _ _ _ p q=>⟨B q.1<|aL p,q.2.ie F<|aR p⟩) H
theorem jv.ie(F:uH oi oj Z Z' G ay n'){x y:Option AV}{v:Option Value}(H:jv Z G n h x v)(e:AH oi oj x y=true):jv Z' ay n' h y v:=by
 cases x with|none=>exact FX e (by cases v<;>exact H)|some x=>cases v with|none=>exact H.elim|some v=>exact t4 e λ y e=>VR.ie F e H
theorem Dq{x y:Option AV}(e:AH oi oj x y=true):v4 y=v4 x:=by
 cases x with|none=>exact FX e rfl|some x=>exact t4 e λ _ _=>rfl
theorem zd:∀{es fs:List<|AV×Option AV},aV (λ p q=>eW oi oj 6 p.1 q.1&&AH oi oj p.2 q.2) es fs=true->bY fs=bY es:=by
 intro es
 induction es with|nil=>exactλ e=>uy e rfl|cons p es ih=>exactλ e=>q5 e λ q fs c1 c2=>(congrArg (· +bY fs)<|Dq<|aR c1).trans<|congrArg (_+ ·)<|ih c2
theorem MR.ie{K:Type}[DecidableEq K]{R R':AV->K->Prop}(F:uH oi oj Z Z' G ay n')(B:∀{x y i},R x i->eW oi oj 6 x y=true->R' y i){es}{kvs}(H:BX R Z G n h es kvs)(e:aV (λ p q=>eW oi oj 6 p.1 q.1&&AH oi oj p.2 q.2) es fs=true):BX R' Z' ay n' h fs kvs:=
 λ q J=>a8 ((CB e).mem q J) λ p hp m=>a8 (H p hp) λ i k v=>⟨i,B k<|aL m,v.ie F<|aR m⟩
theorem OR.ie(F:uH oi oj Z Z' G ay n'){os:Nat->Nat->Nat->Nat->Bool}(ρ:∀k lv k' O,os k lv k' O=true->Z'.τ k'=Z.τ k/\Z'.σ O=Z.σ lv){a:Addr}{o o'}(H:OR Z w G n h a o)(e:mB oi oj os o o'=true):OR Z' w ay n' h a o':=by
 cases o with
 |inst c d=>exact Qv (M:=λ o'=>OR Z' w ay n' h a o') e λ c' d' e=>bC (aL e)▸xA (F.i _ _<|aR e) λ q b=>⟨b,q.symm▸H.2.1,F.ic.symm▸H.2.2⟩|ns es=>exact Qr (M:=λ o'=>OR Z' w ay n' h a o') e λ fs e=>rN.ie F H e|list xs=>exact Qu (M:=λ o'=>OR Z' w ay n' h a o') e λ ys e=>a5 H λ ws m g V l=>⟨ws,m,g,V.ie F e,c_ e▸l⟩|seg p k lv q=>exact Qq (M:=λ o'=>OR Z' w ay n' h a o') e λ p' k' O q' e=>i_ e λ J B e=>xA (ρ _ _ _ _ J) λ g1 g2=>bA H λ ps qs m g v u z l=>⟨ps,qs,m,g1.symm▸g,v.ie F B,u.ie F e,g1.symm▸g2.symm▸z,c_ B▸c_ e▸l⟩|cell v=>exact Qz (M:=λ o'=>OR Z' w ay n' h a o') e λ u e=>cI H λ o ov g hc hd hm=>⟨o,ov,g,hc,hd,jv.ie (v:=ov) F hm e⟩|dict es=>exact Qx (M:=λ o'=>OR Z' w ay n' h a o') e λ fs e=>(H:DR Z w G n h es a).rec (λ kvs d f=>.int kvs d<|mh.ie (R:=IK Z) (R':=IK Z') F (λ z y=>IK.ie F z y) f e) (λ kvs d f=>.str kvs d<|mh.ie (R:=SK Z) (R':=SK Z') F (λ z y=>SK.ie F z y) f e) λ xs d f=>.mix xs d (mh.ie (R:=MK Z) (R':=MK Z') F (λ z y=>MK.ie F z y) f e)|map es=>exact Qt (M:=λ o'=>OR Z' w ay n' h a o') e λ fs e=>(H:MR Z w G n h es a).rec (λ kvs d f l=>.int kvs d (MR.ie (R:=IK Z) (R':=IK Z') F (λ z y=>IK.ie F z y) f e)<|zd e▸l) λ xs d f l=>.mix xs d (MR.ie (R:=MK Z) (R':=MK Z') F (λ z y=>MK.ie F z y) f e) (zd e▸l)|ch f cs c k=>exact Qy (M:=λ o'=>OR Z' w ay n' h a o') e λ f' cs' c' k' e=>oe e λ J B e3 e4=>bC J▸bC B▸gd H λ ob fd g q z l d m=>xA (F.i _ _ e3) λ q1 b1=>
   ⟨ob,fd,g,q,F.ch.symm▸z,b1,q1.symm▸d,λ x i' hi=>CA (k:=x) (P:=λ u v=>(∀i,u=some i->i<n/\fd.closure.lookup (Z.nm x)=some (G i))->v=some i'->i'<n'/\fd.closure.lookup (Z'.nm x)=some (ay i')) (λ _ h=>nn h) (λ i j m u v=>sI v▸xA (F.i _ _ m) λ q2 b2=>⟨b2,F.nm.symm▸q2.symm▸(u i rfl).2⟩) e4 (m x) hi⟩
 |ca k=>exact Qw (M:=λ o'=>OR Z' w ay n' h a o') e λ k' e=>bC e▸⟨F.ca.symm▸H.1,F.ca.symm▸H.2⟩
end
structure io where
 l:List (Nat×AO)
 G:Nat->Addr
 Z:Sy
noncomputable def io.foot(P:io):List Addr:=P.l.map λ q=>P.G q.1
noncomputable def dj(Ps:List io):List Addr:=Ps.flatMap io.foot
structure io.Ok(P:io)(w:World)(h:Heap):Prop where
 lo:∀q∈P.l,1358<=P.G q.1
 ob:∀q∈P.l,OR P.Z w P.G 256 h (P.G q.1) q.2
structure on(w:World)(h:Heap)(Ps:List io):Prop where
 ok:∀P∈Ps,P.Ok w h
 nd:(dj Ps).Nodup
 ready:Ready w h
noncomputable def j5:List (Nat×AO)->TR AO
 |[]=>.nil|p::l=>(j5 l).dL p.2 p.1
def Apart(G:Nat->Addr)(st:St)(Rs:List io):Prop:=∀a∈dj Rs,∀i o,st.T.get i=some o->G i≠a
variable{Ps Rs Qs:List io}{Vl:List<|Nat×AO}{News:List io}{lv:Nat}{qs:List Value}
section
variable{Z:Sy}{w:World}{G:Nat->Addr}{h:Heap}{s:Shared}
theorem d_:∀{l:List<|Nat×AO}{i:Nat}{o:AO},(j5 l).get i=some o->(i,o)∈l
 |[],i,o,e=>by exact nn e|p::l,i,o,e=>by
  unfold j5 at e;rw[TR.bu]at e;by_cases hi:i=p.1
  .rw[if_pos hi]at e;obtain rfl:=sI e;subst hi;exact .head _
  .rw[if_neg hi]at e;exact .tail _<|d_ e
theorem gz:dj (Ps++Qs)=dj Ps++dj Qs:=by simp[dj]
theorem f_{P:io}:dj (P::Ps)=P.foot++dj Ps:=by rfl
theorem fD{a:Addr}:a∈dj Ps↔ ∃P∈Ps,∃q∈P.l,P.G q.1=a:=by simp[dj,io.foot]
theorem on.perm(H:on w h Ps)(p:Ps.Perm Qs):on w h Qs:=
 ⟨λ P B=>H.ok P<|p.mem_iff.mpr B,(p.flatMap_right _).nodup_iff.mp H.nd,H.ready⟩
theorem on.right(H:on w h<|Ps++Qs):on w h Qs:=
 ⟨λ P B=>H.ok P<|aF B,by have:=H.nd;rw[gz]at this;exact(fg this).2.1,H.ready⟩
theorem asm{N:Nat}(H:on w h<|Ps++Rs)(O:Vl.map (λ q=>G q.1)=dj Ps)(B:∀q∈Vl,OR Z w G N h (G q.1) q.2)(wb:∀q∈Vl,q.1<N):SR Z w G ⟨j5 Vl,N⟩ h/\Apart G ⟨j5 Vl,N⟩ Rs:=
 have n:=fg<|gz▸H.nd;have J:∀{i o},(j5 Vl).get i=some o->G i∈dj Ps:=λ{i o} e=>O▸List.mem_map.mpr ⟨(i,o),d_ e,rfl⟩
 ⟨⟨λ i o e=>wb _<|d_ e,λ i o e=>uI (fD.mp<|J e) λ P hP q hq z=>z▸(H.ok P<|aU hP).lo q hq,λ i o e=>B (i,o)<|d_ e,λ i j o o' e e' z=>congrArg Prod.fst<|fm (O▸n.1:(Vl.map λ q=>G q.1).Nodup) (i,o) (d_ e) (j,o') (d_ e') z,H.ready⟩,λ a ha i o e z=>n.2.2 (G i) (J e) a ha z⟩
theorem cO(S:SR Z w G st s.heap)(A:cH Z w G st s ay ab s')(H:on w s.heap Rs)(hp:Apart G st Rs):on w s'.heap Rs/\Apart ay ab Rs:=by
 have tk:=A.kp.tup S;have live:∀a∈dj Rs,∃o,s.heap.get? a=some o:=λ a ha=>by
  refine uI (fD.mp ha) λ P B q J z=>?_;rw[<-z];exact((H.ok P B).ob q J).live
 have mn:∀a∈dj Rs,s'.heap.get? a=s.heap.get? a:=λ a ha=>by
  refine xE (live a ha) λ o e=>?_;exact(A.kp.fr a o e<|hp a ha).trans e.symm
 refine⟨⟨λ P B=>⟨(H.ok P B).lo,λ q J=>((H.ok P B).ob q J).keeps (a9 _) (λ _ _=>rfl) tk<|mn _<|fD.mpr<|⟨P,B,q,J,rfl⟩⟩,H.nd,A.sr.ready⟩,λ a ha i o e z=>?_⟩;by_cases hi:i<st.nx
 .refine xE (A.kp.qW i o e hi) λ o' e'=>?_;exact hp a ha i o' e' ((A.kp.same i hi).symm.trans z)
 .have:=A.kp.new i o e<|Nat.not_lt.mp hi;refine xE (live a ha) λ o' e'=>?_;rw[z,e']at this;exact ns this
theorem cut{ks:List Nat}(S:SR Z w G st h)(H:on w h Rs)(hp:Apart G st Rs)(O:dj News=ks.map G)(qW:∀k∈ks,∃o,st.T.get k=some o)(nd:ks.Nodup)(ok:∀P∈News,∀q∈P.l,OR P.Z w P.G 256 h (P.G q.1) q.2):on w h (News++Rs):=by
 refine⟨λ P B=>?_,?_,H.ready⟩
 .rcases dc B with B|B
  .refine⟨λ q hq=>?_,ok P B⟩;have:P.G q.1∈dj News:=fD.mpr<|⟨P,B,q,hq,rfl⟩;rw[O]at this;refine a8 (eV this) λ k J e=>?_;refine xE (qW k J) λ o eo=>?_;rw[<-e];exact S.lo k o eo
  .exact H.ok P B
 .rw[gz,List.nodup_append];refine⟨?_,H.nd,λ a ha b hb z=>?_⟩
  .rw[O];clear O ok hp
   induction ks with|nil=>exact .nil|cons k ks ih=>
    rw[List.nodup_cons]at nd;rw[List.map_cons,List.nodup_cons];refine⟨λ hm=>?_,ih (λ k J=>qW k<|.tail _ J) nd.2⟩;refine a8 (eV hm) λ j hj z=>?_;refine xE (qW k<|.head _) λ o e=>?_;refine xE (qW j<|.tail _ hj) λ o' e'=>?_;exact nd.1 (S.inj j k o' o e' e z▸hj)
  .rw[O]at ha;refine a8 (eV ha) λ k J z2=>?_;clear ha;subst z2;refine xE (qW k J) λ o e=>?_;exact hp b hb k o e z
theorem Au{n:Nat}{a:Addr}{p q}{k:Nat}(H:OR Z w G n h a<|.seg p k lv q):∃ps qs,br Z G n h p ps/\br Z G n h q qs/\
  ∀(Z':Sy)(ay:Nat->Addr)(n' k' B:Nat),Z'.τ k'=ps++Z.τ k++qs->Z'.σ B=(ps++Z.τ k++qs).length->OR Z' w ay n' h a (.seg [] k' B []):=by
 refine bA H λ ps qs m g v u z l=>?_;refine(fc ps qs v u<|λ Z' ay n' k' B J O=>⟨[],[],m,?_,.nil,.nil,by rw[J];exact O,by exact dp _⟩);rw[J,List.nil_append,List.append_nil];exact g
theorem CC{n:Nat}{a:Addr}{p q:List AV}{k B:Nat}{ps}(H:OR Z w G n h a<|.seg [] k lv [])(e:Z.τ k=ps++Z'.τ k'++qs)(hp:br Z' ay n' h p ps)(hq:br Z' ay n' h q qs)(hs:Z'.σ B=(Z'.τ k').length)(hl:p.length+q.length<=10000):OR Z' w ay n' h a (.seg p k' B q):=by
 refine bA H λ O J m g v u z l=>?_;have:O=[]:=eU v.1.symm;clear v;subst this;have:J=[]:=eU u.1.symm;clear u;subst this;rw[List.nil_append,List.append_nil,e]at g;exact⟨ps,qs,m,g,hp,hq,hs,hl⟩
theorem AR{n:Nat}{a:Addr}{k:Nat}(H:OR Z w G n h a<|.seg [] k lv [])(e:Z.τ k=vs)(hp:br Z' ay n' h xs vs)(hl:xs.length<=10000):OR Z' w ay n' h a (.list xs):=by
 refine bA H λ J B m g v u z l=>?_;have:J=[]:=eU v.1.symm;clear v;subst this;have:B=[]:=eU u.1.symm;clear u;subst this;rw[List.nil_append,List.append_nil,e]at g;exact⟨vs,m,g,hp,hl⟩
theorem xT{n:Nat}{a:Addr}(H:OR Z w G n h a<|.list xs):∃vs,br Z G n h xs vs/\
  ∀(Z':Sy)(ay:Nat->Addr)(n' k' B:Nat),Z'.τ k'=vs->Z'.σ B=vs.length->OR Z' w ay n' h a (.seg [] k' B []):=by
 refine a5 H λ ws m g v l=>?_;refine⟨ws,v,λ Z' ay n' k' B J O=>⟨[],[],m,?_,.nil,.nil,by rw[J];exact O,by exact dp _⟩⟩;rw[J,List.nil_append,List.append_nil];exact g
end
noncomputable def dw:List (Nat×AO):=[(1,.cell<|some<|.r 10),
 (4,.list [.r 11,.r 12]),
 (5,.list []),
 (6,.ch 9999 [(321,1)] 13 0),
 (8,.inst 604 14),
 (9,.inst 162 15),
 (13,.ca 0),
 (15,.ns [(27,.r 31),(28,.b false)]),
 (16,.inst 225 32),
 (17,.inst 1106 33),
 (18,.inst 1282 34),
 (19,.inst 1135 35),
 (20,.dict [(.s 300,.g 1312),(.s 301,.g 1324),(.s 162,.g 1181),(.s 106,.g 1188),(.s 176,.g 969)]),
 (21,.dict [(.s 162,.g 1174)]),
 (22,.dict [(.s 152,.g 900)]),
 (23,.dict []),
 (24,.dict []),
 (25,.list []),
 (26,.list []),
 (27,.list []),
 (28,.list [.r 36]),
 (29,.dict []),
 (30,.inst 701 37),
 (31,.inst 85 38),
 (33,.ns [(55,.r 16),(253,.r 6),(254,.r 40),(255,.r 41)]),
 (34,.ns [(55,.r 16),(164,.r 42),(132,.i 0 4)]),
 (35,.ns [(267,.i 0 64),(233,.i 0 50),(94,.i 0 1000000),(139,.i 0 100000),(15,.i 0 10000)]),
 (36,.inst 809 43),
 (37,.ns [(132,.i 0 4),(133,.r 44)]),
 (40,.dict []),
 (41,.dict []),
 (42,.dict [(.s 227,.r 47),(.s 311,.r 48),(.s 312,.r 49),(.s 313,.r 50),(.s 314,.r 51),(.s 339,.r 52),(.s 344,.r 53)]),
 (43,.ns [(70,.r 54),(81,.r 55),(82,.i 0 0),(26,.none),(20,.s 21),(83,.i 0 1),(190,.i 0 0),(191,.t [.i 0 0,.i 0 0]),(193,.r 56)]),
 (45,.list []),
 (47,.inst 142 59),
 (48,.inst 142 60),
 (49,.inst 142 61),
 (50,.inst 142 62),
 (51,.inst 142 63),
 (52,.inst 142 64),
 (53,.inst 142 65),
 (54,.list [.r 66,.r 67]),
 (55,.inst 85 68),
 (57,.inst 123 69),
 (58,.inst 123 70),
 (59,.ns [(6,.i 0 1),(7,.i 0 0),(8,.none),(9,.r 71),(10,.b false),(11,.b false),(22,.s 227),(23,.none),(24,.r 55),(25,.none),(26,.none)]),
 (60,.ns [(6,.i 0 4),(7,.i 0 0),(8,.none),(9,.r 72),(10,.b false),(11,.b false),(22,.s 311),(23,.none),(24,.none),(25,.none),(26,.r 57)]),
 (61,.ns [(6,.i 0 6),(7,.i 0 0),(8,.none),(9,.r 73),(10,.b false),(11,.b false),(22,.s 312),(23,.none),(24,.none),(25,.none),(26,.r 74)]),
 (62,.ns [(6,.i 0 8),(7,.i 0 0),(8,.none),(9,.r 75),(10,.b false),(11,.b false),(22,.s 313),(23,.none),(24,.none),(25,.none),(26,.r 58)]),
 (63,.ns [(6,.i 0 10),(7,.i 0 0),(8,.none),(9,.r 76),(10,.b false),(11,.b false),(22,.s 314),(23,.none),(24,.none),(25,.none),(26,.r 77)]),
 (64,.ns [(6,.i 0 11),(7,.i 0 0),(8,.none),(9,.r 78),(10,.b false),(11,.b false),(22,.s 339),(23,.none),(24,.r 79),(25,.none),(26,.none)]),
 (65,.ns [(6,.i 0 14),(7,.i 0 0),(8,.none),(9,.r 80),(10,.b false),(11,.b false),(22,.s 344),(23,.none),(24,.r 81),(25,.none),(26,.none)]),
 (66,.inst 66 82),
 (67,.inst 66 83),
 (68,.ns [(6,.i 0 2),(7,.i 0 1),(8,.none),(9,.r 84),(10,.b false),(11,.b false),(15,.r 85),(16,.none)]),
 (69,.ns [(6,.i 0 3),(7,.i 0 1),(8,.none),(9,.r 86),(10,.b false),(11,.b false),(17,.t [.s 198,.s 311,.t [.s 151,.r 87],.i 0 0,.r 88]),(18,.r 89),(19,.none),(20,.s 21)]),
 (70,.ns [(6,.i 0 7),(7,.i 0 1),(8,.none),(9,.r 90),(10,.b false),(11,.b false),(17,.t [.s 198,.s 313,.t [.s 151,.r 91],.i 0 0,.r 92]),(18,.r 93),(19,.none),(20,.s 21)]),
 (71,.list []),
 (72,.list []),
 (73,.list []),
 (74,.inst 123 94),
 (75,.list []),
 (76,.list []),
 (77,.inst 123 95),
 (78,.list []),
 (79,.inst 85 96),
 (80,.list []),
 (81,.inst 85 97),
 (82,.ns [(6,.i 0 21),(7,.i 0 1),(8,.none),(9,.r 98),(10,.b false),(11,.b false),(12,.r 99),(14,.none)]),
 (83,.ns [(6,.i 0 26),(7,.i 0 1),(8,.none),(9,.r 100),(10,.b false),(11,.b false),(12,.r 9),(14,.none)]),
 (84,.list []),
 (85,.list []),
 (86,.list []),
 (87,.list [.t [.s 152,.i 0 1,.t [.s 301,.s 286]]]),
 (88,.list []),
 (89,.list []),
 (90,.list []),
 (91,.list [.t [.s 152,.i 0 1,.t [.s 301,.s 61]]]),
 (92,.list []),
 (93,.list []),
 (94,.ns [(6,.i 0 5),(7,.i 0 1),(8,.none),(9,.r 101),(10,.b false),(11,.b false),(17,.t [.s 198,.s 312,.t [.s 151,.r 102],.i 0 0,.r 103]),(18,.r 104),(19,.none),(20,.s 21)]),
 (95,.ns [(6,.i 0 9),(7,.i 0 1),(8,.none),(9,.r 105),(10,.b false),(11,.b false),(17,.t [.s 198,.s 314,.t [.s 151,.r 106],.i 0 0,.r 107]),(18,.r 108),(19,.none),(20,.s 21)]),
 (96,.ns [(6,.i 0 12),(7,.i 0 1),(8,.none),(9,.r 109),(10,.b false),(11,.b false),(15,.r 110),(16,.none)]),
 (97,.ns [(6,.i 0 15),(7,.i 0 1),(8,.none),(9,.r 111),(10,.b false),(11,.b false),(15,.r 112),(16,.none)]),
 (98,.list []),
 (99,.inst 162 113),
 (100,.list []),
 (101,.list []),
 (102,.list [.t [.s 152,.i 0 1,.t [.s 301,.s 278]]]),
 (103,.list []),
 (104,.list []),
 (105,.list []),
 (106,.list [.t [.s 152,.i 0 1,.t [.s 301,.s 282]]]),
 (107,.list []),
 (108,.list []),
 (109,.list []),
 (110,.list [.r 114]),
 (111,.list []),
 (112,.list [.r 115]),
 (113,.ns [(27,.r 116),(28,.b false)]),
 (114,.inst 66 117),
 (115,.inst 66 118),
 (116,.inst 85 119),
 (117,.ns [(6,.i 0 13),(7,.i 0 1),(8,.none),(9,.r 120),(10,.b false),(11,.b false),(12,.s 1),(14,.none)]),
 (118,.ns [(6,.i 0 16),(7,.i 0 1),(8,.none),(9,.r 121),(10,.b false),(11,.b false),(12,.s 2),(14,.none)]),
 (120,.list []),
 (121,.list []),
 (122,.list [])]
noncomputable def cx(c:Nat):List (Nat×AO):=[(0,.ns [(325,.r 2),(316,.r 3),(122,.r 4),(264,.r 5),(294,.r 6),(326,.r 7),(63,.r 8),(22,.s c),(317,.r 9),(328,.i 1801 0),(329,.b true)]),
 (14,.ns [(55,.r 16),(48,.r 17),(84,.r 18),(29,.r 19),(85,.r 20),(86,.r 21),(87,.r 22),(88,.r 23),(89,.r 24),(90,.r 25),(91,.r 26),(76,.r 27),(92,.r 28),(72,.none),(93,.r 29),(94,.i 908 0),(95,.r 30),(96,.none),(97,.none)]),
 (32,.ns [(29,.r 19),(30,.i 3 (-1)),(31,.r 39)]),
 (38,.ns [(6,.i 0 24),(7,.i 0 1),(8,.s c),(9,.r 45),(10,.b false),(11,.b false),(15,.r 46),(16,.none)]),
 (39,.list []),
 (119,.ns [(6,.i 0 19),(7,.i 0 1),(8,.s 1),(9,.r 122),(10,.b false),(11,.b false),(15,.r 123),(16,.none)])]
noncomputable def fO(c:Nat):List (Nat×AO):=[(0,.ns [(325,.r 2),(316,.r 3),(122,.r 4),(264,.r 5),(294,.r 6),(326,.r 7),(63,.r 8),(22,.s c),(317,.r 9)]),
 (14,.ns [(55,.r 16),(48,.r 17),(84,.r 18),(29,.r 19),(85,.r 20),(86,.r 21),(87,.r 22),(88,.r 23),(89,.r 24),(90,.r 25),(91,.r 26),(76,.r 27),(92,.r 28),(72,.none),(93,.r 29),(94,.i 908 0),(95,.r 30),(96,.none),(97,.none)]),
 (32,.ns [(29,.r 19),(30,.i 0 26),(31,.r 39)]),
 (38,.ns [(6,.i 0 24),(7,.i 0 2),(8,.s c),(9,.r 45),(10,.b false),(11,.b false),(15,.r 46),(16,.none)]),
 (39,.list [.r 116,.r 130,.r 131,.r 31,.r 132,.r 133]),
 (119,.ns [(6,.i 0 19),(7,.i 0 2),(8,.s 1),(9,.r 122),(10,.b false),(11,.b false),(15,.r 123),(16,.none)]),
 (130,.inst 66 134),
 (131,.inst 85 135),
 (132,.inst 66 136),
 (133,.inst 85 137),
 (134,.ns [(6,.i 0 20),(7,.i 0 0),(8,.none),(9,.r 138),(10,.b false),(11,.b false),(12,.r 99),(14,.none)]),
 (135,.ns [(6,.i 0 17),(7,.i 0 0),(8,.none),(9,.r 139),(10,.b false),(11,.b false),(15,.r 140),(16,.none)]),
 (136,.ns [(6,.i 0 25),(7,.i 0 0),(8,.none),(9,.r 141),(10,.b false),(11,.b false),(12,.r 9),(14,.none)]),
 (137,.ns [(6,.i 0 22),(7,.i 0 0),(8,.none),(9,.r 142),(10,.b false),(11,.b false),(15,.r 143),(16,.none)]),
 (138,.list []),
 (139,.list []),
 (140,.list [.r 144]),
 (141,.list []),
 (142,.list []),
 (143,.list [.r 145]),
 (144,.inst 66 146),
 (145,.inst 66 147),
 (146,.ns [(6,.i 0 18),(7,.i 0 1),(8,.none),(9,.r 148),(10,.b false),(11,.b false),(12,.s 1),(14,.none)]),
 (147,.ns [(6,.i 0 23),(7,.i 0 1),(8,.none),(9,.r 149),(10,.b false),(11,.b false),(12,.s c),(14,.none)]),
 (148,.list []),
 (149,.list [])]
noncomputable def tx(c:Nat):AV:=match Nat.beq c 3 with|true=>.t [.s 3,.s 2,.s 1,.s 129]|false=>.t [.s 2,.s 1,.s 129]
noncomputable def vS:AV:=.t [.r 74,.s 1]
noncomputable def vQ:AV:=.t [.r 77,.s 2]
noncomputable def vT:AV:=.t [.r 58,.s 1]
noncomputable def vK:AV:=.t [.i 0 0,.i 0 7]
def pI(c:Nat)(ps pq ts tq:Option AV):AO:=.map [(.t [.s 258,.t [.s 1,.s 129]],ps),(.t [.s 258,tx c],pq),(.t [.s 256,.t [.s 1,.s 129]],ts),(.t [.s 256,tx c],tq)]
noncomputable def pK(ks B J:Option AV):AO:=.map [(.i 0 5,ks),(.i 0 9,B),(.i 0 7,J)]
noncomputable def mO(b:Nat)(x:AV):List (Nat×AO):=[(b,.inst 66<|b+1),(b+1,.ns [(6,.i 2 0),(7,.i 0 1),(8,.none),(9,.r<|b+2),(10,.b false),(11,.b false),(12,x),(14,.none)]),(b+2,.list [])]
noncomputable def nN(k:Nat):List (Nat×AO):=[(210,.inst 66 211),(211,.ns [(6,.i 1 0),(7,.i 0<|Int.ofNat k),(8,.s 13),(9,.r 212),(10,.b false),(11,.b false),(12,.i 910 0),(14,.none)]),(212,.list []),(213,.inst 162 214),(214,.ns [(27,.r 210),(28,.b false)])]
inductive Kd where|dL|pu|s0|sN|s1|s2|q0|q1|q2|m0|m1|m2
noncomputable def Kd.way:Kd->Int|.dL=>0|.pu=>1|.s0|.sN|.s1|.s2=>2|.q0|.q1|.q2=>3|.m0|.m1|.m2=>4
noncomputable def gX(x:List AV)(y:List AV):List (Nat×AO):=[(123,.seg [] 1 901 x),(11,.seg [] 3 901 y)]
noncomputable def jm(x:List AV)(y:List AV):List (Nat×AO):=[(46,.seg [] 2 902 x),(12,.seg y 4 902 [])]
noncomputable def Px:List (Nat×AO):=[(123,.list []),(11,.list [])]
noncomputable def K8:List (Nat×AO):=[(46,.list []),(12,.list [])]
def Kd.ls:Kd->List (Nat×AO)
 |.dL|.pu=>gX [] []++jm [] []|.s0=>Px++jm [] []|.sN=>gX [.r 200] [.none]++jm [] []|.s1|.s2=>gX [.r 200] [.i 910 0]++jm [] []|.q0|.m0=>gX [] []++K8|.q1|.q2|.m1|.m2=>gX [] []++jm [.r 200] [.i 910 0]
def Kd.be:Kd->List (Nat×AO)
 |.sN=>mO 200 .none|.s1|.q1|.m1=>mO 200 (.r 213)++nN 1|.s2|.q2|.m2=>mO 200 (.r 213)++nN 2|_=>[]
noncomputable def Ik:List (Nat×AO):=[(3,.seg [] 5 905 []),(7,.seg [] 7 907 [.i 1802 0]),(10,.seg [] 6 906 [])]
def Kd.view(k:Kd)(F:List<|Nat×AO)(J B:AO):List (Nat×AO):=F++dw++[(44,J),(56,B)]++Ik++k.ls++k.be
noncomputable def qr(n h:List AV):List (Nat×AO):=[(3,.seg [] 5 905 n),(7,.seg [] 7 907 []),(10,.seg [] 6 906 h)]
def Kd.vW(bv:Nat)(bo:Int):Kd->List (Nat×AO)
 |.dL|.pu=>qr [.i bv bo] []++gX [.r 200] [.i 905 1]++[(46,.seg [.r 220] 2 902 []),(12,.seg [] 4 902 [.i 905 1])]|.s0=>qr [] []++Px++jm [] []|.q0=>qr [] []++gX [] []++K8|.sN|.s2|.q2=>qr [] []++gX [] []++jm [] []|.s1|.q1=>qr [] [.i 1 0]++gX [] []++jm [] []|.m0=>qr [] []++gX [.r 200] [.none]++K8|.m1|.m2=>qr [] []++gX [.r 200] [.i 910 0]++jm [] []
noncomputable def Kd.dl:Kd->Int|.dL|.pu=>7|.s0|.sN|.q0=>1|.s1|.s2|.q1|.q2=>2|.m0=>4|.m1|.m2=>5
noncomputable def Kd.ds:Kd->Int|.dL|.pu|.m0|.m1|.m2=>2|_=>1
def Kd.jF(k:Kd)(bv:Nat)(bo:Int):List (Nat×Nat×Int):=[(0,0,0),(3,bv,bo+k.dl),(908,908,k.ds),(1801,1803,0)]
def Kd.qH(bv:Nat)(bo:Int):Kd->List (List (Nat×AO)×List (Nat×Nat×Int))
 |.dL|.pu=>[(mO 200<|.r 213,[(0,0,0),(2,bv,bo+3)]),(mO 220<|.r 213,[(0,0,0),(2,bv,bo+6)]),(nN 2,[(0,0,0),(1,bv,bo),(910,905,1)])]|.s2|.q2=>[(nN 1,[(0,0,0),(1,1,0),(910,910,0)])]|.m0=>[(mO 200 .none,[(0,0,0),(2,bv,bo+3)])]|.m1=>[(mO 200<|.r 213,[(0,0,0),(2,bv,bo+4)]),(nN 1,[(0,0,0),(1,1,0),(910,910,0)])]|.m2=>[(mO 200<|.r 213,[(0,0,0),(2,bv,bo+4)]),(nN 2,[(0,0,0),(1,1,0),(910,910,0)])]|_=>[]
def pr(M:List<|Nat×Nat)(i:Nat):Nat:=match lk i M with|some a=>a|none=>i
def C8(T:TR AO)(i k:Nat):Option AV:=match T.get i with|some o=>(match o with|.ns es=>lk k es|_=>none)|none=>none
def WJ(T:TR AO)(i:Nat):Option Nat:=match T.get i with|some o=>(match o with|.inst _ d=>some d|_=>none)|none=>none
noncomputable def K7(v:Option AV):Option Nat:=match v with|some v=>(match v with|.r a=>some a|_=>none)|none=>none
def OP(T:TR AO)(b a:Nat):Option (List<|Nat×Nat):=bd (WJ T a) λ d=>bd (K7<|C8 T d 9) λ k=>some [(b,a),(b+1,d),(b+2,k)]
def thM(T:TR AO)(r:Nat):Option (List<|Nat×Nat):=bd (WJ T r) λ d=>bd (K7<|C8 T d 27) λ t=>bd (WJ T t) λ e=>bd (K7<|C8 T e 9) λ k=>some [(213,r),(214,d),(210,t),(211,e),(212,k)]
noncomputable def Am:List (Nat×Nat):=[(210,210),(211,211),(212,212),(213,213),(214,214)]
def sk(T:TR AO)(i:Nat):Option Nat:=match T.get i with|some o=>(match o with|.seg _ _ _ q=>(match q with|[x]=>K7 (some x)|_=>none)|_=>none)|none=>none
def W1(T:TR AO)(i:Nat):Option Nat:=match T.get i with|some o=>(match o with|.seg p _ _ _=>(match p with|[x]=>K7 (some x)|_=>none)|_=>none)|none=>none
def zM(T:TR AO):Option (List<|Nat×Nat):=bd (K7<|C8 T 32 31) λ z=>some [(39,z)]
def Kd.mk(T:TR AO):Kd->Option (List<|Nat×Nat)
 |.dL|.pu=>bd (zM T) λ z=>bd (sk T 123) λ a=>bd (OP T 200 a) λ x=>bd (W1 T 46) λ b=>bd (OP T 220 b) λ y=>bd (K7<|bd (WJ T a) λ d=>C8 T d 12) λ r=>bd (thM T r) λ t=>some (z++x++y++t)|.s2|.q2=>bd (zM T) λ z=>some (z++Am)|.m0=>bd (zM T) λ z=>bd (sk T 123) λ a=>bd (OP T 200 a) λ x=>some (z++x)|.m1|.m2=>bd (zM T) λ z=>bd (sk T 123) λ a=>bd (OP T 200 a) λ x=>some (z++x++Am)|_=>zM T
def Li(M:List<|Nat×Nat)(a a':Nat):Bool:=match Nat.beq (pr M a') a with|true=>Nat.blt a' 256|false=>false
def FK(J:List<|Nat×Nat×Int)(v:Nat)(o:Int)(v':Nat)(o':Int):Bool:=match lk v' J with|some p=>(match Nat.beq p.1 v with|true=>wf o (o'+p.2)|false=>false)|none=>false
def Ov(v:Nat)(o:Int)(v':Nat)(o':Int):Bool:=match Nat.beq v v' with|true=>wf o o'|false=>false
noncomputable def Ou(k lv k' B:Nat):Bool:=match Nat.beq k k' with|true=>Nat.beq lv B|false=>false
noncomputable def uz(_ _ _ _:Nat):Bool:=false
def Jh(T:TR AO)(M:List<|Nat×Nat)(oj:Nat->Int->Nat->Int->Bool)(os:Nat->Nat->Nat->Nat->Bool)(q:Nat×AO):Bool:=match T.get (pr M q.1)with
 |some o=>mB (Li M) oj os o q.2|none=>false
def fK(T:TR AO)(M:List<|Nat×Nat)(oj:Nat->Int->Nat->Int->Bool)(os:Nat->Nat->Nat->Nat->Bool)(l:List<|Nat×AO):Bool:=l.all<|Jh T M oj os
def Kd.ids(k:Kd):List Nat:=(cx 0++dw).map (·.1)++[44,56]++(k.vW 0 0).map (·.1)++(k.qH 0 0).flatMap λ e=>e.1.map (·.1)
def Az(k:Kd)(M:List<|Nat×Nat):Bool:=match jj (M.map (·.2))with
 |true=>(match M.all (λ p=>(match Nat.beq p.1 39 with|true=>Nat.ble 200 p.2|false=>(match Nat.ble 200 p.1 with|true=>Nat.ble 200 p.2|false=>false)))with
  |true=>k.ids.all λ i=>(match Nat.blt i 200 with|true=>true|false=>(match lk i M with|some _=>true|none=>false))|false=>false)
 |false=>false
def m_:List IS:=match OZ.body with|_::_::_::_::_::.BV _ _ (a::b::_)::_=>[a,b]|_=>[]
def xn(X:Env)(V:St):Option St:=bd (jq 0 [(321,1)] (.l 328) (.i 1803 0) V) λ V=>match(ev X 250).S 0 [(321,1)] m_ V with|some p=>(match p.1 with|.d6=>some p.2|_=>none)|none=>none
def gK(X:Env)(k:Kd)(bv:Nat)(bo:Int)(c:Nat)(V:List<|Nat×AO):Option (AO×AO):=bd (xn X ⟨j5 V,256⟩) λ B=>bd (k.mk B.T) λ M=>
 match Az k M with
 |true=>(match fK B.T M (FK<|k.jF bv bo) uz (cx c++dw)with
  |true=>(match fK B.T M Ov Ou (k.vW bv bo)with
   |true=>(match(k.qH bv bo).all (λ e=>fK B.T M (FK e.2) uz e.1)with
    |true=>bd (B.T.get 44) λ a=>bd (B.T.get 56) λ b=>some (a,b)|false=>none)
   |false=>none)
  |false=>none)
 |false=>none
def jV(d:Nat)(way:Int)(v m:Nat):Option Int:=cj (Nat.beq v 1802)<|cj (Nat.beq m d)<|some way
def XW(k:Kd):Env:=bI<|jV 5 k.way
abbrev dP(k:Kd)(c:Nat)(a b x y:Option AV):Prop:=(λ ts tq B=>gK (XW k) k 3 0 c<|k.view (cx c) (pI c a b ts tq)<|pK x y B)=λ ts tq B=>some (pI c (some vS) (some vQ) ts tq,pK (some vK) (some vK) B)
abbrev dS(k:Kd)(c:Nat)(t z:Option AV):Prop:=(λ ps pq tq ks B=>gK (XW k) k 3 0 c<|k.view (cx c) (pI c ps pq t tq)<|pK ks B z)=λ ps pq tq ks B=>some (pI c ps pq (some vT) tq,pK ks B<|some vK)
abbrev dQ(k:Kd)(c:Nat)(q z:Option AV):Prop:=(λ ps pq ts ks B=>gK (XW k) k 3 0 c<|k.view (cx c) (pI c ps pq ts q)<|pK ks B z)=λ ps pq ts ks B=>some (pI c ps pq ts<|some vT,pK ks B<|some vK)
abbrev dM(k:Kd)(c:Nat)(a q x z:Option AV):Prop:=(λ pq ts B=>gK (XW k) k 3 0 c<|k.view (cx c) (pI c a pq ts q)<|pK x B z)=λ pq ts B=>some (pI c (some vS) pq ts<|some vT,pK (some vK) B<|some vK)
abbrev DP(k:Kd)(c:Nat):Prop:=dP k c none none none none/\dP k c (some vS) none (some vK) none/\dP k c (some vS) (some vQ) (some vK) (some vK)
abbrev DS(k:Kd)(c:Nat):Prop:=dS k c none none/\dS k c none (some vK)/\dS k c (some vT) (some vK)
abbrev DQ(k:Kd)(c:Nat):Prop:=dQ k c none none/\dQ k c none (some vK)/\dQ k c (some vT) (some vK)
abbrev DN(k:Kd)(c:Nat)(a x:Option AV):Prop:=dM k c a none x none/\dM k c a none x (some vK)/\dM k c a (some vT) x (some vK)
theorem uA{P:Nat->Prop}(a:P 2)(b:P 3):∀c,c=2\/c=3->P c:=λ _ h=>h.elim (λ e=>e▸a) λ e=>e▸b
abbrev d0(k:Kd)(c:Nat)(a b t q x y z:Option AV):Prop:=gK (XW k) k 0 27 c (k.view (fO c) (pI c none none none none)<|pK none none none)=some (pI c a b t q,pK x y z)
theorem M9:DP .dL 2:=⟨by kernel_rfl,by kernel_rfl,by kernel_rfl⟩
theorem M0:DP .dL 3:=⟨by kernel_rfl,by kernel_rfl,by kernel_rfl⟩
theorem Ue:∀c,c=2\/c=3->DP .dL c:=uA M9 M0
theorem Uh:DP .pu 2:=⟨by kernel_rfl,by kernel_rfl,by kernel_rfl⟩
theorem Ug:DP .pu 3:=⟨by kernel_rfl,by kernel_rfl,by kernel_rfl⟩
theorem abh:∀c,c=2\/c=3->DP .pu c:=uA Uh Ug
theorem T8:DS .s0 2:=⟨by kernel_rfl,by kernel_rfl,by kernel_rfl⟩
theorem T7:DS .s0 3:=⟨by kernel_rfl,by kernel_rfl,by kernel_rfl⟩
theorem abd:∀c,c=2\/c=3->DS .s0 c:=uA T8 T7
theorem TY:DS .sN 2:=⟨by kernel_rfl,by kernel_rfl,by kernel_rfl⟩
theorem TX:DS .sN 3:=⟨by kernel_rfl,by kernel_rfl,by kernel_rfl⟩
theorem aba:∀c,c=2\/c=3->DS .sN c:=uA TY TX
theorem T6:DS .s1 2:=⟨by kernel_rfl,by kernel_rfl,by kernel_rfl⟩
theorem T5:DS .s1 3:=⟨by kernel_rfl,by kernel_rfl,by kernel_rfl⟩
theorem abc:∀c,c=2\/c=3->DS .s1 c:=uA T6 T5
theorem T4:DS .s2 2:=⟨by kernel_rfl,by kernel_rfl,by kernel_rfl⟩
theorem TZ:DS .s2 3:=⟨by kernel_rfl,by kernel_rfl,by kernel_rfl⟩
theorem abb:∀c,c=2\/c=3->DS .s2 c:=uA T4 TZ
theorem Ud:DQ .q0 2:=⟨by kernel_rfl,by kernel_rfl,by kernel_rfl⟩
theorem Uc:DQ .q0 3:=⟨by kernel_rfl,by kernel_rfl,by kernel_rfl⟩
theorem abg:∀c,c=2\/c=3->DQ .q0 c:=uA Ud Uc
theorem TF:∀c,c=2\/c=3->d0 .dL c (some vS) (some vQ) none none (some vK) (some vK) none:=uA (by kernel_rfl) (by kernel_rfl)
theorem aa6:∀c,c=2\/c=3->d0 .pu c (some vS) (some vQ) none none (some vK) (some vK) none:=uA (by kernel_rfl) (by kernel_rfl)
theorem aa4:∀c,c=2\/c=3->d0 .s0 c none none (some vT) none none none (some vK):=uA (by kernel_rfl) (by kernel_rfl)
theorem aa5:∀c,c=2\/c=3->d0 .q0 c none none none (some vT) none none (some vK):=uA (by kernel_rfl) (by kernel_rfl)
theorem aa7:∀c,c=2\/c=3->d0 .m0 c (some vS) none none (some vT) (some vK) none (some vK):=uA (by kernel_rfl) (by kernel_rfl)
theorem Ub:DQ .q1 2:=⟨by kernel_rfl,by kernel_rfl,by kernel_rfl⟩
theorem Ua:DQ .q1 3:=⟨by kernel_rfl,by kernel_rfl,by kernel_rfl⟩
theorem abf:∀c,c=2\/c=3->DQ .q1 c:=uA Ub Ua
theorem T_:DQ .q2 2:=⟨by kernel_rfl,by kernel_rfl,by kernel_rfl⟩
theorem T9:DQ .q2 3:=⟨by kernel_rfl,by kernel_rfl,by kernel_rfl⟩
theorem abe:∀c,c=2\/c=3->DQ .q2 c:=uA T_ T9
theorem Nl:DN .m0 2 none none:=⟨by kernel_rfl,by kernel_rfl,by kernel_rfl⟩
theorem Nk:DN .m0 2 (some vS) (some vK):=⟨by kernel_rfl,by kernel_rfl,by kernel_rfl⟩
theorem Nj:DN .m0 3 none none:=⟨by kernel_rfl,by kernel_rfl,by kernel_rfl⟩
theorem Ni:DN .m0 3 (some vS) (some vK):=⟨by kernel_rfl,by kernel_rfl,by kernel_rfl⟩
theorem abk:∀c,c=2\/c=3->DN .m0 c none none/\DN .m0 c (some vS) (some vK):=uA ⟨Nl,Nk⟩ ⟨Nj,Ni⟩
theorem Nh:DN .m1 2 none none:=⟨by kernel_rfl,by kernel_rfl,by kernel_rfl⟩
theorem Ng:DN .m1 2 (some vS) (some vK):=⟨by kernel_rfl,by kernel_rfl,by kernel_rfl⟩
theorem Nf:DN .m1 3 none none:=⟨by kernel_rfl,by kernel_rfl,by kernel_rfl⟩
theorem Nd:DN .m1 3 (some vS) (some vK):=⟨by kernel_rfl,by kernel_rfl,by kernel_rfl⟩
theorem abj:∀c,c=2\/c=3->DN .m1 c none none/\DN .m1 c (some vS) (some vK):=uA ⟨Nh,Ng⟩ ⟨Nf,Nd⟩
theorem Nc:DN .m2 2 none none:=⟨by kernel_rfl,by kernel_rfl,by kernel_rfl⟩
theorem Nb:DN .m2 2 (some vS) (some vK):=⟨by kernel_rfl,by kernel_rfl,by kernel_rfl⟩
theorem Na:DN .m2 3 none none:=⟨by kernel_rfl,by kernel_rfl,by kernel_rfl⟩
theorem M_:DN .m2 3 (some vS) (some vK):=⟨by kernel_rfl,by kernel_rfl,by kernel_rfl⟩
theorem abi:∀c,c=2\/c=3->DN .m2 c none none/\DN .m2 c (some vS) (some vK):=uA ⟨Nc,Nb⟩ ⟨Na,M_⟩
section
variable{P:I->Prop}{c:I}{k l:List I}
theorem aC(hc:P c)(h:∀u∈l,P u):∀u∈c::l,P u:=λ u B=>(bG B).elim (λ e=>e▸hc)<|h u
theorem aZ:∀u∈([]:List I),P u:=λ _ h=>nomatch h
theorem aA(h1:∀u∈k,P u)(h2:∀u∈l,P u):∀u∈k++l,P u:=λ u B=>(dc B).elim (h1 u)<|h2 u
theorem aM{f:β->I}{l:List β}(h:∀b∈l,P<|f b):∀a∈l.map f,P a:=λ _ ha=>(eV ha).elim λ b e=>e.2▸h b e.1
theorem OF{P:Nat->I->Prop}{l:List<|Nat×I}(h:∀q∈l,P q.1 q.2):∀v p,lk v l=some p->P v p:=λ v p e=>h (v,p)<|da e
theorem jx{x k:Nat}(h:256<=x)(B:k<256):x≠k:=cV<|ba B h
end
structure UF(k:Kd)(bv:Nat)(bo:Int)(c:Nat)(T:TR AO)(M:List<|Nat×Nat)(a b:AO):Prop where
 ok:Az k M=true
 F:fK T M (FK<|k.jF bv bo) uz (cx c++dw)=true
 L:fK T M Ov Ou (k.vW bv bo)=true
 E:∀e∈k.qH bv bo,fK T M (FK e.2) uz e.1=true
 a:T.get 44=some a
 b:T.get 56=some b
variable{bv:Nat}{bo:Int}
theorem Br{X}{k:Kd}{V}{a b}(h:gK X k bv bo c V=some (a,b)):∃B M,xn X ⟨j5 V,256⟩=some B/\UF k bv bo c B.T M a b/\k.mk B.T=some M:=by
 refine a8 (cY h) λ B e1 h=>?_;refine a8 (cY h) λ M e2 h=>?_;cases h1:Az k M with|false=>rw[h1]at h;exact nn h|true=>
  rw[h1]at h;cases h2:fK B.T M (FK<|k.jF bv bo) uz (cx c++dw)with
  |false=>rw[h2]at h;exact nn h|true=>
   rw[h2]at h;cases J:fK B.T M Ov Ou (k.vW bv bo)with
   |false=>rw[J]at h;exact nn h|true=>
    rw[J]at h;cases O:(k.qH bv bo).all (λ e=>fK B.T M (FK e.2) uz e.1)with
    |false=>rw[O]at h;exact nn h|true=>
     rw[O]at h;refine a8 (cY h) λ x e5 h=>?_;refine a8 (cY h) λ y e6 h=>?_;refine xA (sP h) λ z0 z1=>?_;clear h;clear h;clear h;subst z0;subst z1;exact(fc B M e1 ⟨h1,h2,J,λ e he=>bV O e he,e5,e6⟩ e2)
theorem f9{T:TR AO}{M}{oj:Nat->Int->Nat->Int->Bool}{os:Nat->Nat->Nat->Nat->Bool}{l}(h:fK T M oj os l=true){q:Nat×AO}(B:q∈l):∃o,T.get (pr M q.1)=some o/\mB (Li M) oj os o q.2=true:=by
 have:=bV h q B;unfold Jh at this;cases e:T.get (pr M q.1)with
 |none=>rw[e]at this;exact ff this|some o=>rw[e]at this;exact⟨o,rfl,this⟩
section
variable{k:Kd}{M:List<|Nat×Nat}
theorem C6(h:Az k M=true):(M.map (·.2)).Nodup:=by
 unfold Az at h;cases e:jj (M.map (·.2))with
 |false=>rw[e]at h;exact ff h|true=>exact dm e
theorem pv(h:Az k M=true):∀p∈M,(p.1=39\/200<=p.1)/\200<=p.2:=by
 unfold Az at h;cases e:jj (M.map (·.2))with
 |false=>rw[e]at h;exact ff h|true=>
  rw[e]at h;dsimp only at h;intro p hp;split at h
  .rename_i B;have:=bV B p hp;cases h1:Nat.beq p.1 39 with|true=>rw[h1]at this;exact⟨.inl<|bC h1,dY this⟩|false=>
    rw[h1]at this;cases h2:Nat.ble 200 p.1 with|false=>rw[h2]at this;exact ff this|true=>rw[h2]at this;exact⟨.inr<|dY h2,dY this⟩
  .exact ff h
theorem y9(h:Az k M=true):∀i∈k.ids,i<200\/∃a,lk i M=some a:=by
 unfold Az at h;cases e:jj (M.map (·.2))with
 |false=>rw[e]at h;exact ff h|true=>
  rw[e]at h;dsimp only at h;intro i hi;split at h
  .have:=bV h i hi;cases h1:Nat.blt i 200 with|true=>exact .inl (cK h1)|false=>
    rw[h1]at this;cases h2:lk i M with|some a=>exact .inr ⟨a,rfl⟩|none=>rw[h2]at this;exact ff this
  .exact ff h
theorem oh(h:Az k M=true){i:Nat}(hi:i<200)(B:i≠39):pr M i=i:=by
 unfold pr;cases e:lk i M with|none=>rfl|some a=>
  rcases(pv h _<|da e).1 with z|z
  .exact absurd z B
  .exact absurd hi (fe z)
theorem Gz(h:Az k M=true){i:Nat}(hi:i∈k.ids)(O:j∈k.ids)(e:pr M i=pr M j):i=j:=by
 unfold pr at e;cases J:lk i M with
 |none=>
  have Wm:i<200:=(y9 h i hi).resolve_right λ⟨a,z⟩=>by rw[J]at z;exact nn z
  cases B:lk j M with|none=>rw[J,B]at e;exact e|some b=>
   rw[J,B]at e;have:=(pv h _<|da B).2;have e:i=b:=e;lia
 |some a=>
  cases B:lk j M with
  |none=>
   have Jw:j<200:=(y9 h j O).resolve_right λ⟨a,z⟩=>by rw[B]at z;exact nn z
   rw[J,B]at e;have:=(pv h _<|da J).2;have e:a=j:=e;lia
  |some b=>
   rw[J,B]at e;have e:a=b:=e;subst e;have:=fm (C6 h) _ (da J) _ (da B) rfl;exact(bx this).1
theorem An(h:Az k M=true)(nd:k.ids.Nodup):(k.ids.map<|pr M).Nodup:=by
 have:∀{l:List Nat},(∀i∈l,i∈k.ids)->l.Nodup->(l.map<|pr M).Nodup:=by
  intro l
  induction l with|nil=>intro _ _;exact .nil|cons i l ih=>
   intro hm J;rw[List.nodup_cons]at J;rw[List.map_cons,List.nodup_cons];refine⟨λ hx=>?_,ih (λ j B=>hm j<|.tail _ B) J.2⟩;refine a8 (eV hx) λ j B e=>?_;exact J.1 (Gz h (hm j<|.tail _ B) (hm i<|.head _) e▸B)
 exact this (λ _ h=>h) nd
theorem A8(k:Kd):k.ids.Nodup:=by cases k<;>exact dm (by kernel_rfl)
end
variable{J:List<|Nat×Nat×Int}
theorem Ep{Z}{G:Nat->Addr}{M}(e:Z'={Z with σ:=Z'.σ,τ:=Z'.τ})(B:∀i,ay i=G (pr M i))(hJ:∀v p,lk v J=some p->Z'.σ v=Z.σ p.1+p.2):uH (Li M) (FK J) Z Z' G ay 256:=by
 refine⟨by rw[e],by rw[e],by rw[e],by rw[e],by rw[e],by rw[e],λ a a' h=>?_,λ v o v' o' h=>?_⟩
 .unfold Li at h;cases h1:Nat.beq (pr M a') a with|false=>rw[h1]at h;exact ff h|true=>
   rw[h1]at h;have:=bC h1;exact⟨by rw[B,this],cK h⟩
 .unfold FK at h;cases h1:lk v' J with|none=>rw[h1]at h;exact ff h|some p=>
   rw[h1]at h;dsimp only at h;cases h2:Nat.beq p.1 v with|false=>rw[h2]at h;exact ff h|true=>
    rw[h2]at h;have h2:=bC h2;have O:=ft<|(rs _ _).symm.trans h;rw[hJ v' p h1,h2,O];lia
structure El where
 a:Addr
 b:Addr
 c:Addr
 r:Addr
 num:Int
 k:Nat
structure Th where
 a:Addr
 b:Addr
 c:Addr
 r:Addr
 d:Addr
 num:Int
 k:Nat
 n:Nat
noncomputable def El.G(e:El)(i:Nat):Addr:=if i=200 then e.a else if i=201 then e.b else if i=202 then e.c else e.r
noncomputable def El.σ(e:El)(v:Nat):Int:=if v=2 then e.num else 0
noncomputable def El.x(e:El):AV:=if e.k=0 then .none else .r 213
noncomputable def Th.G(t:Th)(i:Nat):Addr:=if i=210 then t.a else if i=211 then t.b else if i=212 then t.c else if i=213 then t.r else t.d
noncomputable def Th.σ(t:Th)(v:Nat):Int:=if v=1 then t.num else if v=910 then t.k else 0
noncomputable def BZ(l st tn:Int)(v:Nat):Int:=if v=3 then l+1 else if v=908 then st else if v=1801 then tn else 0
noncomputable def iR:List Nat:=[3,7,10,123,11,46,12]
section
variable(ca:Nat->Obj)(ch:Nat->Nat->FuncData->Prop)
def El.P(e:El):io:=⟨mO 200 e.x,e.G,bD e.σ (λ _=>[]) ca ch⟩
def Th.P(t:Th):io:=⟨nN t.n,t.G,bD t.σ (λ _=>[]) ca ch⟩
def LF(a:Addr)(vs:List Value):io:=⟨[(0,.seg [] 0 900 [])],λ _=>a,bD (λ v=>if v=900 then vs.length else 0) (λ _=>vs) ca ch⟩
def fP(F:List<|Nat×AO)(G:Nat->Addr)(l st tn:Int)(J B:AO):io:=⟨F++dw++[(44,J),(56,B)],G,bD (BZ l st tn) (λ _=>[]) ca ch⟩
def ed(G:Nat->Addr)(V:Nat->List Value):List io:=iR.map λ i=>LF ca ch (G i)<|V i
end
noncomputable def Lh(a a':Nat):Bool:=match Nat.beq a a' with|true=>Nat.blt a 200|false=>false
def xy(vs:List Nat)(v:Nat)(o:Int)(v':Nat)(o':Int):Bool:=match Nat.beq v v' with|true=>(match wf o o' with|true=>vs.any (Nat.beq v)|false=>false)|false=>false
noncomputable def Qp(is:List Nat)(a a':Nat):Bool:=match Nat.beq a a' with|true=>is.any (Nat.beq a)|false=>false
def yY(oi:Nat->Nat->Bool)(oj:Nat->Int->Nat->Int->Bool)(l:List<|Nat×AO):Bool:=l.all λ q=>match Nat.blt q.1 256 with|true=>mB oi oj uz q.2 q.2|false=>false
abbrev l8(F:List<|Nat×AO):Prop:=(yY Lh (xy [0,3,908,1801]) F&&F.all λ q=>Nat.blt q.1 200)=true
theorem BA:l8 dw:=by kernel_rfl
theorem jK:∀c,c=2\/c=3->l8 (cx c):=λ c h=>by rcases h with rfl|rfl<;>kernel_rfl
theorem km:∀c,c=2\/c=3->l8 (fO c):=λ c h=>by rcases h with rfl|rfl<;>kernel_rfl
structure re where
 ps:Bool
 pq:Bool
 ts:Bool
 tq:Bool
noncomputable def sw(b:Bool)(v:AV):Option AV:=match b with|true=>some v|false=>none
def re.T(m:re)(c:Nat):AO:=pI c (sw m.ps vS) (sw m.pq vQ) (sw m.ts vT)<|sw m.tq vT
def re.K(m:re):AO:=pK (sw m.ps vK) (sw m.pq vK)<|sw (m.ts||m.tq) vK
theorem vO(m:re)(c:Nat)(h:c=2\/c=3):mB Lh (xy [0,3,908,1801]) uz (m.T c) (m.T c)=true/\mB Lh (xy [0,3,908,1801]) uz m.K m.K=true:=by
 obtain⟨a,b,d,e⟩:=m;rcases h with rfl|rfl<;>cases a<;>cases b<;>cases d<;>cases e<;>exact⟨by kernel_rfl,by kernel_rfl⟩
noncomputable def kD:List Nat:=[200,201,202,213]
noncomputable def ux:List Nat:=[210,211,212,213,214]
theorem zK(e:El):yY (Qp kD) (xy [0,2]) (mO 200 e.x)=true:=by
 unfold El.x;split<;>kernel_rfl
theorem r8:∀n,n=1\/n=2->yY (Qp ux) (xy [0,1,910]) (nN n)=true:=λ n h=>by rcases h with rfl|rfl<;>kernel_rfl
variable{σ':Nat->Int}{WQ:Nat->List Value}{ρV:Nat->Addr}{tn:Int}{V:Nat->List Value}{Es:List io}
section
variable{ca:Nat->Obj}{ch:Nat->Nat->FuncData->Prop}{σ:Nat->Int}{w:World}{G:Nat->Addr}{h:Heap}
theorem uf{v:Nat}{l:List Nat}(h:l.any (Nat.beq v)=true):v∈l:=by
 refine a8 (List.any_eq_true.mp h) λ x hx e=>?_;rw[Nat.eq_of_beq_eq_true e];exact hx
theorem xx{vs}{σ:Nat->Int}(B:∀v∈vs,σ v=σ' v):∀v o v' o',xy vs v o v' o'=true->σ v'+o'=σ' v+o:=λ v o v' o' h=>by
 unfold xy at h;cases h1:Nat.beq v v' with|false=>rw[h1]at h;exact ff h|true=>
  rw[h1]at h;have:=bC h1;clear h1;subst this;dsimp only at h;cases h2:wf o o' with|false=>rw[h2]at h;exact ff h|true=>
   rw[h2]at h;rw[B v<|uf h,(of_decide_eq_true ((rs _ _).symm.trans h2):o=o')]
theorem JC{N:Nat}(O:200<=N)(J:∀i,i<200->ρV i=G i)(B:∀v∈[0,3,908,1801],σ v=σ' v):uH Lh (xy [0,3,908,1801]) (bD σ' WQ ca ch) (bD σ τ ca ch) G ρV N:=by
 refine⟨rfl,rfl,rfl,rfl,rfl,rfl,λ a a' h=>?_,λ v o v' o' h=>?_⟩
 .unfold Lh at h;cases h1:Nat.beq a a' with|false=>rw[h1]at h;exact ff h|true=>
   rw[h1]at h;have:=bC h1;clear h1;subst this;have:=cK h;exact⟨J a this,ba this O⟩
 .exact xx B v o v' o' h
theorem Er{is vs}(hi:∀i∈is,i<256)(J:∀i∈is,ρV i=G i)(B:∀v∈vs,σ v=σ' v):uH (Qp is) (xy vs) (bD σ' WQ ca ch) (bD σ τ ca ch) G ρV 256:=by
 refine⟨rfl,rfl,rfl,rfl,rfl,rfl,λ a a' h=>?_,xx B⟩;unfold Qp at h;cases h1:Nat.beq a a' with|false=>rw[h1]at h;exact ff h|true=>
  rw[h1]at h;have:=bC h1;clear h1;subst this;exact⟨J a<|uf h,hi a<|uf h⟩
theorem gp{oi:Nat->Nat->Bool}{oj:Nat->Int->Nat->Int->Bool}{l}(h:yY oi oj l=true){q:Nat×AO}(B:q∈l):q.1<256/\mB oi oj uz q.2 q.2=true:=by
 have:=bV h q B;cases h1:Nat.blt q.1 256 with|false=>rw[h1]at this;exact ff this|true=>rw[h1]at this;exact⟨cK h1,this⟩
theorem gu{Z:Sy}:∀k lv k' B,uz k lv k' B=true->Z'.τ k'=Z.τ k/\Z'.σ B=Z.σ lv:=λ _ _ _ _ h=>nomatch h
theorem I8{F}{m:re}(hc:c=2\/c=3)(hF:l8 F):∀q∈F++dw++[(44,m.T c),(56,m.K)],q.1<200/\mB Lh (xy [0,3,908,1801]) uz q.2 q.2=true:=
 have f:=fS hF;have b:=fS BA
 aA (aA (λ q B=>⟨cK<|bV f.2 q B,(gp f.1 B).2⟩) λ q B=>⟨cK<|bV b.2 q B,(gp b.1 B).2⟩) (aC ⟨(by decide:44<200),(vO m c hc).1⟩<|aC ⟨(by decide:56<200),(vO m c hc).2⟩ aZ)
theorem mx{N:Nat}{F ls be:List<|Nat×AO}{m:re}{l st:Int}(hN:200<=N)(hc:c=2\/c=3)(hF:l8 F)(H:on w h (fP ca ch F G l st tn (m.T c) m.K::(ed ca ch G V++Es++Rs)))(hl:∀q∈ls,OR (bD σ τ ca ch) w ρV N h (G q.1) q.2)(Sb:ls.map (·.1)=iR)(he:∀q∈be,q.1<N/\OR (bD σ τ ca ch) w ρV N h (ρV q.1) q.2)(OI:be.map (λ q=>ρV q.1)=dj Es)(J:∀i,i<200->ρV i=G i)(D7:∀v∈[0,3,908,1801],σ v=BZ l st tn v):
  SR (bD σ τ ca ch) w ρV ⟨j5<|F++dw++[(44,m.T c),(56,m.K)]++ls++be,N⟩ h/\Apart ρV ⟨j5<|F++dw++[(44,m.T c),(56,m.K)]++ls++be,N⟩ Rs:=by
 have O:∀q∈F++dw++[(44,m.T c),(56,m.K)],q.1<200/\mB Lh (xy [0,3,908,1801]) uz q.2 q.2=true:=I8 hc hF;have Zv:∀q∈ls,q.1<200:=λ q B=>(by decide:∀i∈iR,i<200) _<|Sb▸bU B;refine asm (Ps:=fP ca ch F G l st tn (m.T c) m.K::(ed ca ch G V++Es)) H ?_ (aA (aA (λ q B=>?_) λ q B=>?_) λ q B=>(he q B).2) (aA (aA (λ q B=>ba (O q B).1 hN) λ q B=>ba (Zv q B) hN) λ q B=>(he q B).1)
 .rw[List.map_append,List.map_append,f_,gz,OI,<-List.append_assoc];congr 2
  .exact List.map_congr_left λ q B=>J q.1 (O q B).1
  .rw[show ls.map (λ q=>ρV q.1)=(ls.map (·.1)).map G from(List.map_congr_left λ q B=>J q.1<|Zv q B).trans List.map_map.symm,Sb];rfl
 .rw[J q.1 (O q B).1];exact OR.ie (JC hN J D7) gu ((H.ok _<|.head _).ob q B) (O q B).2
 .rw[J q.1<|Zv q B];exact hl q B
end
def l_(Z:Sy)(G:Nat->Addr)(n:Nat)(h:Heap)(o:AO)(vs:List Value):Prop:=match o with|.seg p k _ q=>∃ps qs,br Z G n h p ps/\br Z G n h q qs/\vs=ps++Z.τ k++qs|.list xs=>br Z G n h xs vs|_=>False
noncomputable def Dt(o:AO):Bool:=match o with|.seg .. =>true|.list _=>true|_=>false
variable{V':St}
section
variable{ca:Nat->Obj}{ch:Nat->Nat->FuncData->Prop}{σ:Nat->Int}{w:World}{G:Nat->Addr}{s:Shared}{h:Heap}
theorem LD{a:Addr}(lo:1358<=a)(H:∀(Z':Sy)(ay:Nat->Addr)(n' k' J:Nat),Z'.τ k'=vs->Z'.σ J=vs.length->OR Z' w ay n' h a (.seg [] k' J [])):(LF ca ch a vs).Ok w h:=by
 refine⟨λ q B=>?_,λ q B=>?_⟩
 .exact lo
 .rcases bG B with rfl|B
  .exact H _ _ _ _ _ rfl rfl
  .cases B
theorem Ij{Z}{a:Addr}{n:Nat}{o}(hb:Dt o=true)(H:OR Z w G n h a o):∃vs,l_ Z G n h o vs/\∀(Z':Sy)(ay:Nat->Addr)(n' k' B:Nat),Z'.τ k'=vs->Z'.σ B=vs.length->OR Z' w ay n' h a (.seg [] k' B []):=by
 cases o<;>try (cases hb;done)
 .refine a8 (xT H) λ vs v f=>?_;exact⟨vs,v,f⟩
 .refine a5 (Au H) λ ps qs v u f=>?_;exact⟨_,⟨ps,qs,v,u,rfl⟩,f⟩
noncomputable def VT(a a':Nat):Bool:=match Nat.beq a a' with|true=>(match Nat.blt a 200 with|true=> !Nat.beq a 39|false=>false)|false=>false
def VQ(v:Nat)(o:Int)(v':Nat)(o':Int):Bool:=match Nat.beq v 0 with|true=>(match Nat.beq v' 0 with|true=>wf o o'|false=>false)|false=>false
theorem rl(m:re)(c:Nat)(h:c=2\/c=3):mB VT VQ uz (m.T c) (m.T c)=true/\mB VT VQ uz m.K m.K=true:=by
 obtain⟨a,b,d,e⟩:=m;rcases h with rfl|rfl<;>cases a<;>cases b<;>cases d<;>cases e<;>exact⟨by kernel_rfl,by kernel_rfl⟩
theorem JA{k}{M}(ok:Az k M=true)(h1:σ 0=0)(h2:σ' 0=0):uH VT VQ (bD σ τ ca ch) (bD σ' WQ ca ch) ay (λ i=>ay<|pr M i) 256:=by
 refine⟨rfl,rfl,rfl,rfl,rfl,rfl,λ a a' h=>?_,λ v o v' o' h=>?_⟩
 .unfold VT at h;cases q1:Nat.beq a a' with|false=>rw[q1]at h;exact ff h|true=>
   rw[q1]at h;have:=bC q1;clear q1;subst this;dsimp only at h;cases q2:Nat.blt a 200 with|false=>rw[q2]at h;exact ff h|true=>
    rw[q2]at h;have lt:=cK q2;refine⟨?_,by exact ba (by assumption) (by simp)⟩;show ay (pr M a)=ay a;rw[oh ok lt λ z=>by clear q2 lt;subst z;exact ff h]
 .unfold VQ at h;cases q1:Nat.beq v 0 with|false=>rw[q1]at h;exact ff h|true=>
   rw[q1]at h;dsimp only at h;cases q2:Nat.beq v' 0 with|false=>rw[q2]at h;exact ff h|true=>
    rw[q2]at h;rw[Nat.eq_of_beq_eq_true q1,Nat.eq_of_beq_eq_true q2,(of_decide_eq_true ((rs _ _).symm.trans h):o=o')];show σ' 0+o'=σ 0+o';rw[h1,h2]
theorem JB{M}:uH (Li M) Ov (bD σ τ ca ch) (bD σ τ ca ch) ay (λ i=>ay<|pr M i) 256:=by
 refine⟨rfl,rfl,rfl,rfl,rfl,rfl,λ a a' h=>?_,λ v o v' o' h=>?_⟩
 .unfold Li at h;cases h1:Nat.beq (pr M a') a with|false=>rw[h1]at h;exact ff h|true=>
   rw[h1]at h;exact⟨by rw[Nat.eq_of_beq_eq_true h1],cK h⟩
 .unfold Ov at h;cases h1:Nat.beq v v' with|false=>rw[h1]at h;exact ff h|true=>
   rw[h1]at h;rw[Nat.eq_of_beq_eq_true h1,(of_decide_eq_true ((rs _ _).symm.trans h):o=o')]
theorem vx{Z:Sy}:∀k lv k' B,Ou k lv k' B=true->Z.τ k'=Z.τ k/\Z.σ B=Z.σ lv:=λ k lv k' B h=>by
 unfold Ou at h;cases h1:Nat.beq k k' with|false=>rw[h1]at h;exact ff h|true=>
  rw[h1]at h;rw[Nat.eq_of_beq_eq_true h1,Nat.eq_of_beq_eq_true h];exact⟨rfl,rfl⟩
theorem UP{C:Nat×AO->I->Prop}{l:List<|Nat×AO}(d:I)(nd:(l.map (·.1)).Nodup)(H:∀q∈l,∃v,C q v):∃V:Nat->I,∀q∈l,C q (V q.1):=
 xE (Classical.skolem.mp λ i=>show∃v,∀q∈l,q.1=i->C q v from(Classical.em (∃q∈l,q.1=i)).elim (λ h=>a8 h λ q B e=>xE (H q B) λ v c=>⟨v,λ q' J e'=>fm nd q B q' J (e.trans e'.symm)▸c⟩) λ h=>⟨d,λ q B e=>absurd ⟨q,B,e⟩ h⟩) λ V O=>⟨V,λ q B=>O q.1 q B rfl⟩
theorem Hk(k:Kd)(bv:Nat)(bo:Int):(k.vW bv bo).map (·.1)=iR:=by cases k<;>rfl
theorem L6(k:Kd)(c bv:Nat)(bo:Int)(a b:AO):(cx c++dw++[(44,a),(56,b)]).map (λ q:Nat×AO=>q.1)++iR++((k.qH bv bo).flatMap λ e=>e.1.map (·.1))=k.ids:=by cases k<;>rfl
theorem KL{F ls:List<|Nat×AO}{a b}{l st:Int}{V:St}{f:Nat->Nat}{ks:List Nat}{n:Nat}(S:SR (bD σ τ ca ch) w G V h)(R:on w h Rs)(ap:Apart G V Rs)(hF:∀q∈F++dw++[(44,a),(56,b)],∃o,V.T.get (f q.1)=some o/\OR (bD (BZ l st tn) (λ _=>[]) ca ch) w (λ i=>G<|f i) 256 h (G<|f q.1) q.2)(O:∀q∈ls,∃o,V.T.get (f q.1)=some o/\OR (bD σ τ ca ch) w (λ i=>G<|f i) n h (G<|f q.1) q.2)(Sr:ls.all (λ q=>Dt q.2)=true)(J:ls.map (·.1)=iR)(hk:∀i∈ks,∃o,V.T.get (f i)=some o)(nd:(((F++dw++[(44,a),(56,b)]).map (λ q:Nat×AO=>q.1)++iR++ks).map f).Nodup)(hE:dj Es=ks.map λ i=>G<|f i)(Mq:∀P∈Es,∀q∈P.l,OR P.Z w P.G 256 h (P.G q.1) q.2):
  ∃W:Nat->List Value,(∀q∈ls,l_ (bD σ τ ca ch) (λ i=>G<|f i) n h q.2<|W q.1)/\on w h (fP ca ch F (λ i=>G<|f i) l st tn a b::(ed ca ch (λ i=>G<|f i) W++Es++Rs)):=
 xE (UP (C:=λ q v=>l_ (bD σ τ ca ch) (λ i=>G<|f i) n h q.2 v/\(LF ca ch (G<|f q.1) v).Ok w h) [] (J▸(by decide:iR.Nodup)) λ q B=>a8 (O q B) λ o e H=>a8 (Ij (bV Sr q B) H) λ v c g=>⟨v,c,LD (S.lo _ o e) g⟩) λ W hW=>⟨W,λ q B=>(hW q B).1,
  cut (News:=fP ca ch F (λ i=>G<|f i) l st tn a b::(ed ca ch (λ i=>G<|f i) W++Es)) S R ap (by rw[f_,gz,hE,List.map_append,List.map_append,List.map_append,List.map_append,List.map_map,List.map_map,List.map_map,List.append_assoc,List.map_map];rfl)
   (aM<|aA (aA (aM (P:=λ i=>∃o,V.T.get (f i)=some o) (l:=F++dw++[(44,a),(56,b)]) λ q B=>a8 (hF q B) λ o e _=>⟨o,e⟩)<|J▸aM (l:=ls) λ q B=>a8 (O q B) λ o e _=>⟨o,e⟩) hk) nd
   (aC (λ q B=>a8 (hF q B) λ _ _ H=>H)<|aA (aM λ i hi=>((aM (l:=ls) (λ q B=>(hW q B).2):∀i∈ls.map (·.1),(LF ca ch (G<|f i)<|W i).Ok w h) i<|J▸hi).ob) Mq)⟩
theorem yz{k:Kd}{l st:Int}{V:St}{M}{m:re}(A:cH (bD σ τ ca ch) w ρV V s ay V' s')(B:UF k bv bo c V'.T M (m.T c) m.K)(hc:c=2\/c=3)(hq:on w s'.heap Rs)(hp:Apart ay V' Rs)(z0:σ 0=0)(hb:σ bv+bo=l+1)(h8:σ 908=st)(h3:σ 1803=tn)(hE:dj Es=((k.qH bv bo).flatMap λ e=>e.1.map (·.1)).map λ i=>ay<|pr M i)(Mq:∀P∈Es,∀q∈P.l,OR P.Z w P.G 256 s'.heap (P.G q.1) q.2)(Sr:(k.vW bv bo).all (λ q=>Dt q.2)=true):
  ∃W:Nat->List Value,(∀q∈k.vW bv bo,l_ (bD σ τ ca ch) (λ i=>ay<|pr M i) 256 s'.heap q.2<|W q.1)/\
   on w s'.heap (fP ca ch (cx c) (λ i=>ay<|pr M i) (l+k.dl) (st+k.ds) tn (m.T c) m.K::(ed ca ch (λ i=>ay<|pr M i) W++Es++Rs)):=
 have lo:∀i,i<200->i≠39->pr M i=i:=λ i=>oh B.ok;have J:∀v p,lk v (k.jF bv bo)=some p->BZ (l+k.dl) (st+k.ds) tn v=σ p.1+p.2:=OF (P:=λ v(p:Nat×Int)=>BZ (l+k.dl) (st+k.ds) tn v=σ p.1+p.2) (aC (z0.symm▸rfl)<|aC (by show l+k.dl+1=σ bv+(bo+k.dl);lia)<|aC (h8▸rfl)<|aC (h3▸(Int.add_zero _).symm) aZ)
 KL A.sr hq hp (aA (λ q O=>a8 (f9 B.F O) λ o e hm=>⟨o,e,OR.ie (Ep (M:=M) (J:=k.jF bv bo) rfl (λ _=>rfl) J) gu (A.sr.ob _ o e) hm⟩)
   (aC ⟨_,(lo 44 (by decide) (by decide)).symm▸B.a,(lo 44 (by decide) (by decide)).symm▸OR.ie (JA (σ':=BZ (l+k.dl) (st+k.ds) tn) B.ok z0 rfl) gu (A.sr.ob _ _ B.a) (rl m c hc).1⟩<|aC ⟨_,(lo 56 (by decide) (by decide)).symm▸B.b,(lo 56 (by decide) (by decide)).symm▸OR.ie (JA (σ':=BZ (l+k.dl) (st+k.ds) tn) B.ok z0 rfl) gu (A.sr.ob _ _ B.b) (rl m c hc).2⟩ aZ))
  (λ q O=>a8 (f9 B.L O) λ o e hm=>⟨o,e,OR.ie JB vx (A.sr.ob _ o e) hm⟩) Sr (Hk k bv bo) (λ i hi=>a8 (List.mem_flatMap.mp hi) λ e he hi=>(aM (l:=e.1) λ q O=>a8 (f9 (B.E e he) O) λ o e _=>⟨o,e⟩:∀i∈e.1.map (·.1),∃o,V'.T.get (pr M i)=some o) i hi)
  (L6 k c bv bo (m.T c) m.K▸An B.ok (A8 k)) hE Mq
end
def Sm(s s':Shared):Prop:=(∃h t,s'={s with heap:=h,toks:=t})/\∀b o,b<1358->s.heap.get? b=some o->s'.heap.get? b=some o
theorem Sm.trans{s VH}(x:Sm s s')(y:Sm s' VH):Sm s VH:=by
 refine xA x λ z0 l=>?_;clear x;obtain⟨h,t,rfl⟩:=z0;refine xA y λ z0 l'=>?_;obtain⟨h',t',rfl⟩:=z0;exact⟨⟨h',t',rfl⟩,λ b o hb e=>l' b o hb<|l b o hb e⟩
theorem cH.sm{Z}{w}{G:Nat->Addr}{s:Shared}(a:cH Z w G st s ay ab s')(S:SR Z w G st s.heap):Sm s s':=
 ⟨a.same,λ b o hb e=>a.kp.fr b o e λ i o' e' z=>absurd (z▸S.lo i o' e')<|Nat.not_le_of_lt hb⟩
variable{kl:PySem.Expr}{σ₂:Nat->Int}{τ₂:Nat->List Value}
section
variable{ca:Nat->Obj}{ch:Nat->Nat->FuncData->Prop}{σ:Nat->Int}{w:World}{G:Nat->Addr}{s:Shared}{h:Heap}
theorem Gk{k:Kd}{V:St}{tok:Tok}{Q:Flow->Shared->Prop}{E:Value->Shared->Prop}(O:iH σ τ<|jV 5 k.way)(C:kV (bD σ τ ca ch) (XW k) ig ja)(N:a7 (bD σ τ ca ch) ρV V.nx 0 [(321,1)] sc env)(S:SR (bD σ τ ca ch) w ρV V s.heap)(hT:gV NM sc (.l 328) kl=true)(hB:aV (dn NM ig ja j sc) m_ body=true)(r:bt 250 A)(h3:σ 1803=tn)(go:xn (XW k) V=some V')(q:∀ay s',cH (bD σ τ ca ch) w ρV V s ay V' s'->Q .next s'):aD w A (assign kl env<|.int tn tok) (λ _ ci=>aD w A (execs body env) Q E ci) E s:=by
 refine a8 (cY go) λ mV e1 go=>?_;have ok:=qg O C w 250;have v:VR (bD σ τ ca ch) ρV V.nx s.heap (.i 1803 0) (.int tn tok):=by
  have:=VR.i (Z:=bD σ τ ca ch) (G:=ρV) (n:=V.nx) (h:=s.heap) 1803 0 tok;rw[show(bD σ τ ca ch).σ 1803=tn from h3,Int.add_zero]at this;exact this
 refine dH (Z:=bD σ τ ca ch) jC e1 hT r.handled N S v λ aq B=>?_;cases J:(ev (XW k) 250).S 0 [(321,1)] m_ mV with|none=>rw[J]at go;exact nn go|some p=>
  rw[J]at go;obtain⟨fl,bO⟩:=p;dsimp only at go;cases fl<;>try (cases go;done)
  obtain rfl:=sI go;refine ok.S J hB r (N.kp B.kp) B.sr λ ay uG s' aK F=>?_;cases F;exact q ay s'<|B.trans S aK
noncomputable def VS(b a a':Nat):Bool:=match Nat.beq a' 213 with|true=>Nat.beq a 213|false=>(match Nat.beq (a+200) (a'+b)with|true=>(match Nat.ble 200 a' with|true=>Nat.blt a' 203|false=>false)|false=>false)
theorem Cy:∀b,b=200\/b=220->∀x,x=AV.none\/x=.r 213->aV (λ(p q:Nat×AO)=>mB (VS b) (xy [0,2]) uz p.2 q.2) (mO b x) (mO 200 x)=true:=λ b hb x hx=>by
 rcases hb with rfl|rfl<;>rcases hx with rfl|rfl<;>kernel_rfl
theorem El.W0(e:El):e.x=.none\/e.x=.r 213:=by unfold El.x;split<;>simp
theorem MO{b:Nat}(hb:b=200\/b=220)(e:El)(h0:σ₂ 0=0)(h2:σ₂ 2=e.num)(ha:G b=e.a)(Bb:G (b+1)=e.b)(hc:G (b+2)=e.c)(hr:G 213=e.r)(H:∀q∈mO b e.x,OR (bD σ₂ τ₂ ca ch) w G 256 h (G q.1) q.2):∀q∈(El.P ca ch e).l,OR (El.P ca ch e).Z w (El.P ca ch e).G 256 h ((El.P ca ch e).G q.1) q.2:=by
 have sh:=Cy b hb e.x e.W0;have F:uH (VS b) (xy [0,2]) (bD σ₂ τ₂ ca ch) (El.P ca ch e).Z G (El.P ca ch e).G 256:=by
  refine⟨rfl,rfl,rfl,rfl,rfl,rfl,λ a a' h=>?_,λ v o v' o' h=>?_⟩
  .unfold VS at h;clear hb H sh;cases h1:Nat.beq a' 213 with
   |true=>
    rw[h1]at h;rw[Nat.eq_of_beq_eq_true h1,Nat.eq_of_beq_eq_true h];exact⟨hr.symm,by simp⟩
   |false=>
    rw[h1]at h;dsimp only at h;clear h1;cases h2:Nat.beq (a+200) (a'+b)with
    |false=>rw[h2]at h;exact ff h|true=>
     rw[h2]at h;dsimp only at h;cases J:Nat.ble 200 a' with|false=>rw[J]at h;exact ff h|true=>
      rw[J]at h;have h2:=bC h2;have J:=dY J;have h4:=cK h;have:a'=200\/a'=201\/a'=202:=by lia
      clear h J h4;clear J;rcases this with rfl|rfl|rfl
      .have:a=b:=by lia
       clear Bb hc h2;clear h2;subst this;exact⟨ha.symm,by simp⟩
      .have:a=b+1:=by lia
       subst this;exact⟨Bb.symm,by simp⟩
      .have:a=b+2:=by lia
       subst this;exact⟨hc.symm,by simp⟩
  .refine xx (σ:=e.σ) (σ':=σ₂) (λ v hv=>?_) v o v' o' h;simp only[List.mem_cons,List.not_mem_nil,or_false]at hv;rcases hv with rfl|rfl
   .exact h0.symm
   .exact h2.symm
 have key:∀(l k:List<|Nat×AO),aV (λ(p q:Nat×AO)=>mB (VS b) (xy [0,2]) uz p.2 q.2) l k=true->(∀(i:Nat)(p q:Nat×AO),l[i]?=some p->k[i]?=some q->G p.1=e.G q.1)->(∀q∈l,OR (bD σ₂ τ₂ ca ch) w G 256 h (G q.1) q.2)->
   ∀q∈k,OR (El.P ca ch e).Z w (El.P ca ch e).G 256 h (e.G q.1) q.2:=by
  intro l
  induction l with
  |nil=>intro k hk _ _ q B;rw[lr hk]at B;cases B
  |cons p l ih=>
   intro k hk hi H q B;refine a5 (gn hk) λ q' k z2 h1 h2=>?_;clear hk;subst z2;rcases bG B with rfl|B
   .rw[<-hi 0 p q rfl rfl];exact OR.ie F gu (H p<|.head _) h1
   .exact ih k h2 (λ i p q O e2=>hi (i+1) p q (by assumption) (by assumption)) (λ q B=>H q<|.tail _ B) q B
 refine key _ _ sh (λ i p q O e2=>?_) H
 match i with
 |0=>obtain rfl:=sI O;obtain rfl:=sI e2;exact ha
 |1=>obtain rfl:=sI O;obtain rfl:=sI e2;exact Bb
 |2=>obtain rfl:=sI O;obtain rfl:=sI e2;exact hc
 |i+3=>exact nn O
theorem Kw(t:Th)(hn:t.n=1\/t.n=2)(h0:σ₂ 0=0)(h1:σ₂ 1=t.num)(O:σ₂ 910=t.k)(ha:G 210=t.a)(hb:G 211=t.b)(hc:G 212=t.c)(J:G 213=t.r)(hd:G 214=t.d)(H:∀q∈nN t.n,OR (bD σ₂ τ₂ ca ch) w G 256 h (G q.1) q.2):∀q∈(Th.P ca ch t).l,OR (Th.P ca ch t).Z w (Th.P ca ch t).G 256 h ((Th.P ca ch t).G q.1) q.2:=by
 have F:uH (Qp ux) (xy [0,1,910]) (bD σ₂ τ₂ ca ch) (Th.P ca ch t).Z G t.G 256:=by
  refine Er (by decide) (λ i hi=>?_) λ v hv=>?_
  .simp only[ux,List.mem_cons,List.not_mem_nil,or_false]at hi;rcases hi with rfl|rfl|rfl|rfl|rfl
   .exact ha.symm
   .exact hb.symm
   .exact hc.symm
   .exact J.symm
   .exact hd.symm
  .simp only[List.mem_cons,List.not_mem_nil,or_false]at hv;rcases hv with rfl|rfl|rfl
   .exact h0.symm
   .exact h1.symm
   .exact O.symm
 intro q B;have e:G q.1=t.G q.1:=by
  have B:q∈nN t.n:=B;simp only[nN,List.mem_cons,List.not_mem_nil,or_false]at B;rcases B with rfl|rfl|rfl|rfl|rfl
  .exact ha
  .exact hb
  .exact hc
  .exact J
  .exact hd
 show OR _ _ t.G 256 h (t.G q.1) q.2;rw[<-e];exact OR.ie F gu (H q B) (gp (r8 t.n hn) B).2
theorem zL(e:El)(H:(El.P ca ch e).Ok w h)(h0:σ 0=0)(h2:σ 2=e.num)(J:∀i∈kD,ρV i=e.G i):(∀q∈mO 200 e.x,q.1<256/\OR (bD σ τ ca ch) w ρV 256 h (ρV q.1) q.2)/\(mO 200 e.x).map (λ q=>ρV q.1)=(El.P ca ch e).foot:=by
 have hi:∀q∈mO 200 e.x,ρV q.1=e.G q.1:=λ q B=>by
  simp only[mO,List.mem_cons,List.not_mem_nil,or_false]at B;rcases B with rfl|rfl|rfl<;>exact J _ (by first|((first|exact m0|exact m1|exact m2);done)|(simp[ux];done))
 refine⟨λ q B=>⟨(gp (zK e) B).1,?_⟩,List.map_congr_left λ q B=>hi q B⟩;rw[hi q B];refine OR.ie (Er (by decide) J λ v hv=>?_) gu (H.ob q B) (gp (zK e) B).2;simp only[List.mem_cons,List.not_mem_nil,or_false]at hv;rcases hv with rfl|rfl
 .exact h0
 .exact h2
theorem Gs(t:Th)(O:t.n=1\/t.n=2)(H:(Th.P ca ch t).Ok w h)(h0:σ 0=0)(h1:σ 1=t.num)(h9:σ 910=t.k)(J:∀i∈ux,ρV i=t.G i):(∀q∈nN t.n,q.1<256/\OR (bD σ τ ca ch) w ρV 256 h (ρV q.1) q.2)/\(nN t.n).map (λ q=>ρV q.1)=(Th.P ca ch t).foot:=by
 have hi:∀q∈nN t.n,ρV q.1=t.G q.1:=λ q B=>by
  simp only[nN,List.mem_cons,List.not_mem_nil,or_false]at B;rcases B with rfl|rfl|rfl|rfl|rfl<;>exact J _ (by first|(simp[kD];done)|((first|exact m0|exact m1|exact m2|exact m3|exact m4);done))
 refine⟨λ q B=>⟨(gp (r8 t.n O) B).1,?_⟩,List.map_congr_left λ q B=>hi q B⟩;rw[hi q B];refine OR.ie (Er (by decide) J λ v hv=>?_) gu (H.ob q B) (gp (r8 t.n O) B).2;simp only[List.mem_cons,List.not_mem_nil,or_false]at hv;rcases hv with rfl|rfl|rfl
 .exact h0
 .exact h1
 .exact h9
section
variable{a:Addr}{x:AV}{n:Nat}
end
end
noncomputable def Kd.keeps:Kd->Bool|.s2|.q2|.m1|.m2=>true|_=>false
theorem A0{k:Kd}{T}{M}(hk:k.keeps=true)(h:k.mk T=some M):∀i∈ux,pr M i=i:=by
 have two:∀{z:Nat},∀i∈ux,pr ([(39,z)]++Am) i=i:=λ{z} i hi=>by
  simp only[ux,List.mem_cons,List.not_mem_nil,or_false]at hi;rcases hi with rfl|rfl|rfl|rfl|rfl<;>rfl
 have three:∀{z a d e:Nat},∀i∈ux,pr ([(39,z)]++[(200,a),(200+1,d),(200+2,e)]++Am) i=i:=λ{z a d e} i hi=>by
  simp only[ux,List.mem_cons,List.not_mem_nil,or_false]at hi;rcases hi with rfl|rfl|rfl|rfl|rfl<;>rfl
 have zz:∀{x},zM T=some x->∃z,x=[(39,z)]:=λ{x} h=>by
  refine a8 (cY h) λ z _ h=>?_;obtain rfl:=sI h;exact⟨z,rfl⟩
 have ee:∀{b a x},OP T b a=some x->∃d e,x=[(b,a),(b+1,d),(b+2,e)]:=λ{b a x} h=>by
  refine a8 (cY h) λ d _ h=>?_;refine a8 (cY h) λ e _ h=>?_;obtain rfl:=sI h;exact⟨d,e,rfl⟩
 have A:(bd (zM T) λ z=>some<|z++Am)=some M->∀i∈ux,pr M i=i:=λ h=>by
  refine a8 (cY h) λ z J h=>?_;obtain rfl:=sI h;refine xE (zz J) λ z O=>?_;clear J h;clear h;clear h;subst O;exact two
 have B:(bd (zM T) λ z=>bd (sk T 123) λ a=>bd (OP T 200 a) λ x=>some<|z++x++Am)=some M->∀i∈ux,pr M i=i:=λ h=>by
  refine a8 (cY h) λ z J h=>?_;refine a8 (cY h) λ a _ h=>?_;refine a8 (cY h) λ x e2 h=>?_;clear A;obtain rfl:=sI h;refine xE (zz J) λ z O=>?_;clear J;subst O;refine j_ (ee e2) λ d e z2=>?_;clear e2;subst z2;exact three
 cases k<;>first|(cases hk;done)|exact A h|exact B h
theorem Hj(k:Kd)(bv:Nat)(bo:Int):(k.vW bv bo).all (λ q=>Dt q.2)=true:=by cases k<;>rfl
variable{tn2:Int}
section
variable{ca:Nat->Obj}{ch:Nat->Nat->FuncData->Prop}{σ:Nat->Int}{w:World}{G:Nat->Addr}{s:Shared}{h:Heap}
theorem a7.Je{Z:Sy}{G:Nat->Addr}{n L:Nat}{cs}(N:a7 Z G n L cs sc env)(e:Z'.nm=Z.nm)(h0:ay L=G L)(h1:∀x c,lk x cs=some c->ay c=G c/\c<n')(lt:L<n'):a7 Z' ay n' L cs sc env:=
 ⟨N.scope,N.ok,N.locals.trans h0.symm,lt,N.globals,N.builtins,λ x c hc=>⟨(h1 x c hc).2,by rw[e,(h1 x c hc).1];exact(N.cells x c hc).2⟩⟩
def nK(ca:Nat->Obj)(ch:Nat->Nat->FuncData->Prop)(w:World)(σ:Nat->Int)(B:List<|List (Nat×AO)×List (Nat×Nat×Int))(aa:Nat->Addr)(h:Heap):Prop:=
 ∀e∈B,∀(σ₂:Nat->Int)(τ₂:Nat->List Value),(∀v p,lk v e.2=some p->σ₂ v=σ p.1+p.2)->∀q∈e.1,OR (bD σ₂ τ₂ ca ch) w aa 256 h (aa q.1) q.2
theorem ER{k:Kd}{F}{l st:Int}{m m':re}{tok:Tok}{Q:Flow->Shared->Prop}{E:Value->Shared->Prop}(Sg:iH σ τ<|jV 5 k.way)(C:kV (bD σ τ ca ch) (XW k) ig ja)(hc:c=2\/c=3)(hF:l8 F)(H:on w s.heap (fP ca ch F G l st tn (m.T c) m.K::(ed ca ch G V++Es++Rs)))(hl:∀q∈Ik++k.ls,OR (bD σ τ ca ch) w ρV 256 s.heap (G q.1) q.2)(he:∀q∈k.be,q.1<256/\OR (bD σ τ ca ch) w ρV 256 s.heap (ρV q.1) q.2)(OI:k.be.map (λ q=>ρV q.1)=dj Es)(fJ:∀i,i<200->ρV i=G i)(D7:∀v∈[0,3,908,1801],σ v=BZ l st tn v)(N:a7 (bD σ τ ca ch) G 256 0 [(321,1)] sc env)(hT:gV NM sc (.l 328) kl=true)(hB:aV (dn NM ig ja j sc) m_ body=true)(r:bt 250 A)(h3:σ 1803=tn2)(D:gK (XW k) k bv bo c (k.view F (m.T c) m.K)=some (m'.T c,m'.K))(hb:σ bv+bo=l+1)(oK:(Nat->Addr)->List io)(FW:∀aa,dj (oK aa)=((k.qH bv bo).flatMap λ e=>e.1.map (·.1)).map aa)(FV:∀aa h,nK ca ch w σ (k.qH bv bo) aa h->∀P∈oK aa,∀q∈P.l,OR P.Z w P.G 256 h (P.G q.1) q.2)(q:∀(aa:Nat->Addr)(s':Shared)(bO:Nat->List Value),Sm s s'->aa 0=G 0->aa 1=G 1->(k.keeps=true->∀i∈ux,aa i=ρV i)->
   (∀q∈k.vW bv bo,l_ (bD σ τ ca ch) aa 256 s'.heap q.2<|bO q.1)->
   on w s'.heap (fP ca ch (cx c) aa (l+k.dl) (st+k.ds) tn2 (m'.T c) m'.K::(ed ca ch aa bO++oK aa++Rs))->Q .next s'):
  aD w A (assign kl env<|.int tn2 tok) (λ _ ci=>aD w A (execs body env) Q E ci) E s:=by
 refine xA (mx (by decide) hc hF H hl (by rw[List.map_append];clear Sg C hl he OI D FW FV q;cases k<;>rfl) he OI fJ D7) λ S ap=>?_;have ev:k.view F (m.T c) m.K=F++dw++[(44,m.T c),(56,m.K)]++(Ik++k.ls)++k.be:=by simp[Kd.view]
 rw[<-ev]at S ap;refine a5 (Br D) λ V' M go B hM=>?_;have N':a7 (bD σ τ ca ch) ρV 256 0 [(321,1)] sc env:=N.Je rfl (fJ 0 (by decide)) (OF (P:=λ _ c=>ρV c=G c/\c<256)<|aC ⟨fJ 1 (by decide),by decide⟩ aZ) (by decide);refine Gk Sg C N' S hT hB r h3 go λ ay s' a=>?_;refine xA (cO S a (H.right (Ps:=fP ca ch F G l st tn (m.T c) m.K::(ed ca ch G V++Es))) ap) λ h4 h0=>?_;have new:nK ca ch w σ (k.qH bv bo) (λ i=>ay<|pr M i) s'.heap:=λ e he σ₂ τ₂ hJ q hq=>by
  refine a8 (f9 (B.E e he) hq) λ o e1 hm=>?_;exact OR.ie (Ep (M:=M) (J:=e.2) rfl (λ _=>rfl) hJ) gu (a.sr.ob _ o e1) hm
 refine a8 (yz (l:=l) (st:=st) (tn:=tn2) (Es:=oK λ i=>ay<|pr M i) a B hc h4 h0 (D7 0 (by decide)) hb (D7 908 (by decide)) h3 (FW _) (FV _ _ new)<|Hj k bv bo) λ bO cont O=>?_;have same:∀i,i<256->pr M i=i->ay (pr M i)=ρV i:=λ i hi e=>e.symm▸a.kp.same i hi;exact q (λ i=>ay<|pr M i) s' bO (a.sm S) ((same 0 (by decide)<|oh B.ok (by decide) (by decide)).trans<|fJ 0 (by decide)) ((same 1 (by decide)<|oh B.ok (by decide) (by decide)).trans<|fJ 1 (by decide))
  (λ hk i hi=>same i ((by decide:∀i∈ux,i<256) i hi)<|A0 hk hM i hi) cont O
end
noncomputable def Kd.mem(k:Kd)(m:re):re:=match k with|.dL|.pu=>⟨true,true,m.ts,m.tq⟩|.s0|.sN|.s1|.s2=>⟨m.ps,m.pq,true,m.tq⟩|.q0|.q1|.q2=>⟨m.ps,m.pq,m.ts,true⟩|.m0|.m1|.m2=>⟨true,m.pq,m.ts,true⟩
section
variable{k:Kd}
abbrev uw(k:Kd)(c:Nat)(m:re):Prop:=gK (XW k) k 3 0 c (k.view (cx c) (m.T c) m.K)=some ((k.mem m).T c,(k.mem m).K)
theorem gP(h:DP k c)(e:∀m,k.mem m=⟨true,true,m.ts,m.tq⟩):∀m:re,(m.pq=true->m.ps=true)->uw k c m:=λ m hm=>by
 unfold uw;rw[e];cases m with|mk ps pq ts tq=>
  cases ps<;>cases pq
  .exact congrFun (congrFun (congrFun h.1 _) _) _
  .exact nomatch hm rfl
  .exact congrFun (congrFun (congrFun h.2.1 _) _) _
  .exact congrFun (congrFun (congrFun h.2.2 _) _) _
theorem gS(h:DS k c)(e:∀m,k.mem m=⟨m.ps,m.pq,true,m.tq⟩):∀m:re,(m.pq=true->m.ps=true)->uw k c m:=λ m _=>by
 unfold uw;rw[e];cases m with|mk ps pq ts tq=>
  cases ts
  .cases tq
   .exact congrFun (congrFun (congrFun (congrFun (congrFun h.1 _) _) _) _) _
   .exact congrFun (congrFun (congrFun (congrFun (congrFun h.2.1 _) _) _) _) _
  .exact congrFun (congrFun (congrFun (congrFun (congrFun h.2.2 _) _) _) _) _
theorem gQ(h:DQ k c)(e:∀m,k.mem m=⟨m.ps,m.pq,m.ts,true⟩):∀m:re,(m.pq=true->m.ps=true)->uw k c m:=λ m _=>by
 unfold uw;rw[e];cases m with|mk ps pq ts tq=>
  cases tq
  .cases ts
   .exact congrFun (congrFun (congrFun (congrFun (congrFun h.1 _) _) _) _) _
   .exact congrFun (congrFun (congrFun (congrFun (congrFun h.2.1 _) _) _) _) _
  .cases ts<;>exact congrFun (congrFun (congrFun (congrFun (congrFun h.2.2 _) _) _) _) _
theorem gM(h:DN k c none none/\DN k c (some vS) (some vK))(e:∀m,k.mem m=⟨true,m.pq,m.ts,true⟩):∀m:re,(m.pq=true->m.ps=true)->uw k c m:=λ m _=>by
 unfold uw;rw[e];cases m with|mk ps pq ts tq=>
  have q:∀{a x},DN k c a x->a=sw ps vS->x=sw ps vK->gK (XW k) k 3 0 c (k.view (cx c) (re.T ⟨ps,pq,ts,tq⟩ c)<|re.K ⟨ps,pq,ts,tq⟩)=some (re.T ⟨true,pq,ts,true⟩ c,re.K ⟨true,pq,ts,true⟩):=λ h B ex=>by
   subst B ex;cases tq
   .cases ts
    .exact congrFun (congrFun (congrFun h.1 _) _) _
    .exact congrFun (congrFun (congrFun h.2.1 _) _) _
   .cases ts<;>exact congrFun (congrFun (congrFun h.2.2 _) _) _
  cases ps
  .exact q h.1 rfl rfl
  .exact q h.2 rfl rfl
end
theorem TS(k:Kd)(c:Nat)(m:re)(hc:c=2\/c=3)(hm:m.pq=true->m.ps=true):uw k c m:=match k with|.dL=>gP (Ue c hc) (λ _=>rfl) m hm|.pu=>gP (abh c hc) (λ _=>rfl) m hm|.s0=>gS (abd c hc) (λ _=>rfl) m hm|.sN=>gS (aba c hc) (λ _=>rfl) m hm|.s1=>gS (abc c hc) (λ _=>rfl) m hm|.s2=>gS (abb c hc) (λ _=>rfl) m hm|.q0=>gQ (abg c hc) (λ _=>rfl) m hm|.q1=>gQ (abf c hc) (λ _=>rfl) m hm|.q2=>gQ (abe c hc) (λ _=>rfl) m hm|.m0=>gM (abk c hc) (λ _=>rfl) m hm|.m1=>gM (abj c hc) (λ _=>rfl) m hm|.m2=>gM (abi c hc) (λ _=>rfl) m hm
noncomputable def Kd.fst:Kd->Bool|.dL|.pu|.s0|.q0|.m0=>true|_=>false
theorem MZ(k:Kd)(c:Nat)(hc:c=2\/c=3)(h:k.fst=true):gK (XW k) k 0 27 c (k.view (fO c) (re.T ⟨false,false,false,false⟩ c)<|re.K ⟨false,false,false,false⟩)=some ((k.mem ⟨false,false,false,false⟩).T c,(k.mem ⟨false,false,false,false⟩).K):=match k with|.dL=>TF c hc|.pu=>aa6 c hc|.s0=>aa4 c hc|.q0=>aa5 c hc|.m0=>aa7 c hc|.sN|.s1|.s2|.q1|.q2|.m1|.m2=>nomatch h
structure Ws where
 S:List El
 Q:List El
 T:List Th
 N:List Int
 H:List Int
 l:Int
 st:Int
 tn:Int
 m:re
noncomputable def kg(A:List El)(i:Nat):Bool:=A.all λ e=>e.k !=i+1
noncomputable def np(A:List El)(N:List Int):List Int:=((List.range N.length).filter<|kg A).map λ i=>N.getD i 0
structure Ma(x:Ws):Prop where
 num:∀e∈x.S++x.Q,26<e.num/\e.num<=x.l
 su:x.S.Pairwise λ a b=>a.num<b.num
 sF:x.Q.Pairwise λ a b=>a.num<b.num
 qk:∀e∈x.Q,e.k≠0
 has:∀e∈x.S++x.Q,e.k≠0->∃t∈x.T,t.k=e.k/\t.r=e.r/\t.num<e.num
 th:∀t∈x.T,26<t.num/\0<t.k/\x.N[t.k-1]?=some t.num/\t.n=(x.S++x.Q).countP (λ e=>e.k==t.k)/\(t.n=1\/t.n=2)
 dk:x.T.Pairwise λ a b=>a.k≠b.k
 qM:x.N.Pairwise λ a b=>a<b
 Hn:∀n∈x.N,n<=x.l
 hd:x.H.Perm (np (x.S++x.Q) x.N)
 pq:x.m.pq=true->x.m.ps=true
 tE:26<=x.l
theorem b_{A}{i:Nat}:kg A i=true↔ ∀e∈A,e.k≠i+1:=by simp[kg]
theorem fF{A B}{N:List Int}(h:∀i,i<N.length->((∀e∈A,e.k≠i+1)↔ ∀e∈B,e.k≠i+1)):np A N=np B N:=by
 unfold np;congr 1;refine List.filter_congr λ i hi=>?_;have:=h i<|List.mem_range.mp hi;rw[<-b_,<-b_]at this;exact Bool.eq_iff_iff.mpr this
theorem Bn{A}{N:List Int}{x:Int}(h:∃e∈A,e.k=N.length+1):np A (N++[x])=np A N:=by
 unfold np;have J:kg A N.length=false:=by
  cases q:kg A N.length with|false=>rfl|true=>refine a8 h λ e B z=>?_;exact absurd z (b_.mp q e B)
 rw[List.length_append,List.length_singleton,List.range_succ,List.filter_append];simp only[List.filter_cons,J,Bool.false_eq_true,if_false,List.filter_nil,List.append_nil];refine List.map_congr_left λ i hi=>?_;have:i<N.length:=List.mem_range.mp (List.mem_filter.mp hi).1;simp[List.getD,List.getElem?_append_left this]
theorem nC{p q:Nat->Bool}{k:Nat}:∀{l:List Nat},l.Nodup->k∈l->p k=false->q k=true->(∀i∈l,i≠k->q i=p i)->(k::l.filter p).Perm (l.filter q)
 |[],_,h,_,_,_=>nomatch h|a::l,nd,hk,hp,O,h=>by
  rw[List.nodup_cons]at nd;by_cases e:a=k
  .subst e;rw[List.filter_cons_of_neg (by simp[hp]),List.filter_cons_of_pos O];rw[List.filter_congr λ i hi=>(h i (.tail _ hi) λ z=>nd.1<|z▸hi).symm]
  .have oG:k∈l:=(bG hk).resolve_left λ z=>e z.symm;have ih:=nC nd.2 oG hp O λ i hi=>h i<|.tail _ hi;have J:=h a (.head _) e;cases B:p a with
   |true=>
    rw[List.filter_cons_of_pos B,List.filter_cons_of_pos (by rw[J,B])];exact(List.Perm.swap _ _ _).trans (.cons _ ih)
   |false=>
    rw[List.filter_cons_of_neg (by simp[B]),List.filter_cons_of_neg (by simp[J,B])];exact ih
theorem yn{A B}{N}{k:Nat}{v:Int}(J:N[k]?=some v)(h1:∃e∈A,e.k=k+1)(h2:∀e∈B,e.k≠k+1)(h:∀i,i≠k->((∀e∈A,e.k≠i+1)↔ ∀e∈B,e.k≠i+1)):(v::np A N).Perm (np B N):=by
 have lt:=(List.getElem?_eq_some_iff.mp J).1;have hv:N.getD k 0=v:=by simp[List.getD,J]
 have p:=nC (p:=kg A) (q:=kg B) (k:=k) List.nodup_range (List.mem_range.mpr lt)
  (by cases q:kg A k with|false=>rfl|true=>refine a8 h1 λ e he z=>?_;exact absurd z<|b_.mp q e he) (b_.mpr h2)
  (λ i hi O=>by have:=h i O;rw[<-b_,<-b_]at this;exact(Bool.eq_iff_iff.mpr this).symm)
 have:=p.map λ i=>N.getD i 0;rw[List.map_cons,hv]at this;exact this
variable{S:List El}
section
variable{Q:List El}{a b:El}{P:El->Prop}
theorem LA(h:∀e∈S++Q,P e)(ha:P a)(hb:P b):∀e∈(S++[a])++(Q++[b]),P e:=λ e B=>
 (dc B).elim (λ B=>(dc B).elim (λ x=>h e<|aU x) λ x=>List.mem_singleton.mp x▸ha)
  λ B=>(dc B).elim (λ x=>h e<|aF x) λ x=>List.mem_singleton.mp x▸hb
theorem xP(h:∀e∈S++Q,P e)(ha:P a):∀e∈(S++[a])++Q,P e:=λ e B=>
 (dc B).elim (λ B=>(dc B).elim (λ x=>h e<|aU x) λ x=>List.mem_singleton.mp x▸ha) λ x=>h e<|aF x
theorem Q7{e}(h:e∈S++Q):e∈(S++[a])++(Q++[b]):=(dc h).elim (λ h=>aU<|aU h) λ h=>aF<|aU h
theorem Jg{e}(h:e∈S++Q):e∈(S++[a])++Q:=(dc h).elim (λ h=>aU<|aU h) λ h=>aF h
theorem vu{R:I->I->Prop}{l:List I}{c:I}(h:l.Pairwise R)(hc:∀u∈l,R u c):(l++[c]).Pairwise R:=List.pairwise_append.mpr ⟨h,List.pairwise_singleton _ _,λ u B v hv=>List.mem_singleton.mp hv▸hc u B⟩
theorem Il(k:Nat):((S++[a])++Q).countP (λ e=>e.k==k)=(S++Q).countP (λ e=>e.k==k)+if a.k=k then 1 else 0:=by
 rw[List.countP_append,List.countP_append,List.countP_append,List.countP_singleton,Nat.add_right_comm];simp
theorem abo(k:Nat):(S++(Q++[b])).countP (λ e=>e.k==k)=(S++Q).countP (λ e=>e.k==k)+if b.k=k then 1 else 0:=by
 rw[<-List.append_assoc,List.countP_append,List.countP_singleton];simp
theorem yd{a l k:Int}(h:a<=l)(B:0<=k):a<=l+k:=cX h<|Int.le_add_of_nonneg_right B
theorem FT{a l k:Int}(h:a<=l)(B:0<k):a<l+k:=Int.lt_of_le_of_lt h<|Int.lt_add_of_pos_right l B
theorem RV(l:Int){j k:Int}(h:j<=k):l+j<=l+k:=Int.add_le_add_left h l
theorem RU(l:Int){j k:Int}(h:j<k):l+j<l+k:=Int.add_lt_add_left h l
theorem zm{k n:Nat}(h:k<=n):k≠n+1:=dI<|Nat.lt_succ_of_le h
end
section
variable{x:Ws}
theorem Ma.nlt{k:Nat}{v:Int}(h:x.N[k-1]?=some v):k<=x.N.length:=Nat.le_of_pred_lt (List.getElem?_eq_some_iff.mp h).1
theorem Ma.IX(M:Ma x):∀t∈x.T,t.k<=x.N.length:=λ t B=>Ma.nlt (M.th t B).2.2.1
theorem Ma.kle(M:Ma x):∀e∈x.S++x.Q,e.k<=x.N.length:=λ e B=>
 dite (e.k=0) (λ h=>h▸dp _) λ h=>bc (M.has e B h) λ t J z _=>z▸M.IX t J
theorem Ma.ke{T}(M:Ma x)(p:x.T.Perm T):Ma {x with T:=T}:=
 ⟨M.num,M.su,M.sF,M.qk,λ e J O=>let⟨t,B,r⟩:=M.has e J O;⟨t,p.mem_iff.mp B,r⟩,λ t B=>M.th t<|p.mem_iff.mpr B,(p.pairwise_iff λ h z=>h z.symm).mp M.dk,M.qM,M.Hn,M.hd,M.pq,M.tE⟩
theorem Ma.idle(M:Ma x){l st:Int}{m:re}(hl:x.l<=l)(hm:m.pq=true->m.ps=true):Ma {x with l:=l,st:=st,tn:=tn,m:=m}:=
 ⟨λ e B=>⟨(M.num e B).1,cX (M.num e B).2 hl⟩,M.su,M.sF,M.qk,M.has,M.th,M.dk,M.qM,λ n J=>cX (M.Hn n J) hl,M.hd,hm,cX M.tE hl⟩
def N1(T:List Th)(e:El):Prop:=e.k≠0->∃t∈T,t.k=e.k/\t.r=e.r/\t.num<e.num
def NW(N:List Int)(n:Nat)(t:Th):Prop:=26<t.num/\0<t.k/\N[t.k-1]?=some t.num/\t.n=n/\(t.n=1\/t.n=2)
theorem Ma.dL(M:Ma x)(O qV:El)(t:Th)(h1:O.num=x.l+4)(h2:qV.num=x.l+7)(h3:t.num=x.l+1)(k1:O.k=x.N.length+1)(k2:qV.k=x.N.length+1)(k3:t.k=x.N.length+1)(r1:t.r=O.r)(r2:t.r=qV.r)(hn:t.n=2):
  Ma {x with S:=x.S++[O],Q:=x.Q++[qV],T:=t::x.T,N:=x.N++[x.l+1],l:=x.l+7,m:=⟨true,true,x.m.ts,x.m.tq⟩}:=by
 have cnt:∀k,((x.S++[O])++(x.Q++[qV])).countP (λ e=>e.k==k)=(x.S++x.Q).countP (λ e=>e.k==k)+(if O.k=k then 1 else 0)+if qV.k=k then 1 else 0:=λ k=>by rw[abo,Il]
 have no:(x.S++x.Q).countP (λ e=>e.k==t.k)=0:=List.countP_eq_zero.mpr λ e J z=>zm (M.kle e J)<|(beq_iff_eq.mp z).trans k3;refine⟨LA (λ e J=>⟨(M.num e J).1,yd (M.num e J).2 (by decide)⟩) ⟨h1▸FT M.tE (by decide),h1▸RV _ (by decide)⟩ ⟨h2▸FT M.tE (by decide),Int.le_of_eq h2⟩,vu M.su λ u B=>h1▸FT (M.num u<|aU B).2 (by decide),
  vu M.sF λ u B=>h2▸FT (M.num u<|aF B).2 (by decide),λ e J=>(dc J).elim (M.qk e) λ h=>List.mem_singleton.mp h▸k2▸Nat.succ_ne_zero _,
  LA (P:=N1 (t::x.T)) (λ e J hk=>a8 (M.has e J hk) λ u B r=>⟨u,.tail _ B,r⟩) (λ _=>⟨t,.head _,k3.trans k1.symm,r1,h1▸h3▸RU _ (by decide)⟩) (λ _=>⟨t,.head _,k3.trans k2.symm,r2,h2▸h3▸RU _ (by decide)⟩),
  aC (P:=λ u=>NW (x.N++[x.l+1]) (((x.S++[O])++(x.Q++[qV])).countP λ e=>e.k==u.k) u) ⟨h3▸FT M.tE (by decide),k3▸d5 _,?_,?_,.inr hn⟩ λ u B=>?_,
  List.pairwise_cons.mpr ⟨λ u B z=>zm (M.IX u B)<|z.symm.trans k3,M.dk⟩,vu M.qM λ a ha=>FT (M.Hn a ha) (by decide),
  λ n hn=>(dc hn).elim (λ h=>yd (M.Hn n h) (by decide)) λ h=>(List.mem_singleton.mp h:n=x.l+1)▸(RV x.l (by decide):x.l+1<=x.l+7),?_,λ _=>rfl,yd M.tE (by decide)⟩
 .rw[k3,h3];exact List.getElem?_concat_length
 .rw[cnt,no,if_pos<|k1.trans k3.symm,if_pos<|k2.trans k3.symm,hn]
 .refine eG (M.th u B) λ a b c d f=>⟨a,b,(List.getElem?_append_left<|ba (Nat.pred_lt<|cV b)<|M.IX u B).trans c,?_,f⟩;rw[cnt,if_neg λ z=>zm (M.IX u B)<|z.symm.trans k1,if_neg λ z=>zm (M.IX u B)<|z.symm.trans k2];exact d
 .show x.H.Perm (np ((x.S++[O])++(x.Q++[qV]))<|x.N++[x.l+1]);rw[Bn ⟨O,List.mem_append_left _<|List.mem_append_right _ m0,k1⟩];exact M.hd.trans<|.of_eq<|fF λ i hi=>⟨λ h=>LA h (λ z=>cV hi<|Nat.succ.inj<|k1.symm.trans z) λ z=>cV hi<|Nat.succ.inj<|k2.symm.trans z,λ h e J=>h e<|Q7 J⟩
theorem Ma.Xo(M:Ma x){e:El}(J:x.S=S++[e])(O:e.k=0):Ma {x with S:=S}:=by
 have sub:∀u∈S++x.Q,u∈x.S++x.Q:=λ u B=>J▸Jg B;refine⟨λ u B=>M.num u<|sub u B,(List.pairwise_append.mp<|J▸M.su).1,M.sF,M.qk,λ u B=>M.has u<|sub u B,λ t ht=>?_,M.dk,M.qM,M.Hn,?_,M.pq,M.tE⟩
 .refine eG (M.th t ht) λ a b c d f=>⟨a,b,c,?_,f⟩;rw[d,J,Il,if_neg<|O▸Nat.ne_of_lt b];rfl
 .exact M.hd.trans (.of_eq<|fF λ i hi=>⟨λ h u B=>h u<|sub u B,λ h=>J▸xP h (O▸Nat.succ_ne_zero i|>.symm)⟩)
section
variable{Q:List El}{e:El}{t:Th}{T:List Th}(M:Ma x)(p:(x.S++x.Q).Perm (e::(S++Q)))(sS:S.Sublist x.S)(sQ:Q.Sublist x.Q)(hT:x.T=t::T)(hk:t.k=e.k)
theorem Nw{l:List El}(p:l.Perm (e::(S++Q)))(k:Nat):l.countP (λ e=>e.k==k)=(S++Q).countP (λ e=>e.k==k)+if e.k=k then 1 else 0:=by rw[p.countP_eq,List.countP_cons];simp
include M p hT hk in
theorem Ma.Qb:∀u∈T,NW x.N ((S++Q).countP λ e=>e.k==u.k) u:=λ u B=>eG (M.th u<|hT▸.tail _ B) λ a b c d f=>⟨a,b,c,by
 rw[d,Nw p,if_neg λ z=>(List.pairwise_cons.mp (hT▸M.dk:(t::T).Pairwise λ a b=>a.k≠b.k)).1 u B<|hk.trans z];rfl,f⟩
include M p hT hk in
theorem Ma.Qc:t.n=(S++Q).countP (λ e=>e.k==t.k)+1:=by
 rw[(M.th t<|hT▸.head _).2.2.2.1,Nw p,if_pos hk.symm]
include M p sS sQ hT hk
theorem Ma.GR(h1:t.n=1):Ma {x with S:=S,Q:=Q,T:=T,H:=x.H++[t.num]}:=by
 have O:t∈x.T:=hT▸.head _;have sub:∀u∈S++Q,u∈x.S++x.Q:=λ u J=>p.mem_iff.mpr<|.tail _ J;have no:∀u∈S++Q,u.k≠t.k:=λ u J z=>List.countP_eq_zero.mp (Nat.succ.inj<|h1.symm.trans<|M.Qc p hT hk).symm u J<|beq_iff_eq.mpr z;have tk:t.k=(t.k-1)+1:=(Nat.succ_pred<|cV (M.th t O).2.1).symm;refine⟨λ u J=>M.num u<|sub u J,M.su.sublist sS,M.sF.sublist sQ,λ u J=>M.qk u<|sQ.subset J,λ u J h0=>?_,M.Qb p hT hk,(List.pairwise_cons.mp (hT▸M.dk:(t::T).Pairwise λ a b=>a.k≠b.k)).2,M.qM,M.Hn,?_,M.pq,M.tE⟩
 .refine bc (M.has u (sub u J) h0) λ v hv z r=>⟨v,(bG (hT▸hv:v∈t::T)).resolve_left λ q=>no u J<|q▸z.symm,z,r⟩
 .refine(List.perm_append_singleton _ _).trans ((List.Perm.cons _ M.hd).trans<|yn (A:=x.S++x.Q) (B:=S++Q) (M.th t O).2.2.1 ⟨e,p.mem_iff.mpr<|.head _,hk▸tk⟩ (λ u J z=>no u J<|z.trans tk.symm) λ i hi=>⟨λ h u J=>h u<|sub u J,λ h u J=>?_⟩);exact(bG<|p.mem_iff.mp J).elim (λ q z=>hi<|Nat.succ.inj<|z.symm.trans<|q▸hk▸tk)<|h u
theorem Ma.GQ{t':Th}(h2:t.n=2)(k':t'.k=t.k)(r':t'.r=t.r)(J:t'.num=t.num)(n':t'.n=1):
  Ma {x with S:=S,Q:=Q,T:=t'::T}:=by
 have O:t∈x.T:=hT▸.head _;have sub:∀u∈S++Q,u∈x.S++x.Q:=λ u B=>p.mem_iff.mpr<|.tail _ B;have one:1=(S++Q).countP (λ e=>e.k==t.k):=Nat.succ.inj<|h2.symm.trans<|M.Qc p hT hk;have dk:=List.pairwise_cons.mp (hT▸M.dk:(t::T).Pairwise λ a b=>a.k≠b.k);refine⟨λ u B=>M.num u<|sub u B,M.su.sublist sS,M.sF.sublist sQ,λ u B=>M.qk u<|sQ.subset B,λ u B h0=>?_,aC (P:=λ u=>NW x.N ((S++Q).countP λ e=>e.k==u.k) u) ?_<|M.Qb p hT hk,List.pairwise_cons.mpr ⟨λ u B=>k'▸dk.1 u B,dk.2⟩,M.qM,M.Hn,?_,M.pq,M.tE⟩
 .exact du (M.has u (sub u B) h0) λ v hv z r s=>(bG (hT▸hv:v∈t::T)).elim (λ q=>⟨t',.head _,k'.trans<|q▸z,r'.trans<|q▸r,J▸q▸s⟩) λ hv=>⟨v,.tail _ hv,z,r,s⟩
 .exact eG (M.th t O) λ ta tb tc td tf=>⟨J▸ta,k'▸tb,by rw[k',J];exact tc,by rw[k',n'];exact one,.inl n'⟩
 .refine M.hd.trans (.of_eq<|fF λ i hi=>⟨λ h u B=>h u<|sub u B,λ h u B=>(bG<|p.mem_iff.mp B).elim (λ q z=>?_)<|h u⟩);exact a8 (List.countP_pos_iff.mp (one▸Nat.one_pos:0<(S++Q).countP λ e=>e.k==t.k)) λ v hv hz=>h v hv<|(beq_iff_eq.mp hz).trans<|hk.trans<|q▸z
end
theorem Ma.mv0(M:Ma x){e:El}(h1:e.num=x.l+4)(J:e.k=0):Ma {x with S:=x.S++[e],l:=x.l+4}:=by
 refine⟨xP (λ u B=>⟨(M.num u B).1,yd (M.num u B).2 (by decide)⟩) ⟨h1▸FT M.tE (by decide),Int.le_of_eq h1⟩,vu M.su λ u B=>h1▸FT (M.num u<|aU B).2 (by decide),M.sF,M.qk,xP (P:=N1 x.T) M.has<|λ h=>absurd J h,λ t ht=>?_,M.dk,M.qM,
  λ n O=>yd (M.Hn n O) (by decide),M.hd.trans<|.of_eq<|fF λ i hi=>⟨λ h=>xP h λ z=>Nat.succ_ne_zero i<|z.symm.trans J,λ h u B=>h u<|Jg B⟩,M.pq,yd M.tE (by decide)⟩
 refine eG (M.th t ht) λ a b c d f=>⟨a,b,c,?_,f⟩;show t.n=((x.S++[e])++x.Q).countP (λ e=>e.k==t.k);rw[d,Il,if_neg<|J▸Nat.ne_of_lt b];rfl
theorem Ma.mv(M:Ma x){Q}{e e':El}(J:x.Q=e::Q)(h1:e'.num=x.l+5)(O:e'.k=e.k)(hr:e'.r=e.r):Ma {x with S:=x.S++[e'],Q:=Q,l:=x.l+5}:=by
 have eQ:e∈x.S++x.Q:=aF<|J▸.head _;have sub:∀u∈x.S++Q,u∈x.S++x.Q:=λ u B=>(dc B).elim (aU) λ h=>aF<|J▸.tail _ h;refine⟨xP (λ u B=>⟨(M.num u<|sub u B).1,yd (M.num u<|sub u B).2 (by decide)⟩) ⟨h1▸FT M.tE (by decide),Int.le_of_eq h1⟩,vu M.su λ u B=>h1▸FT (M.num u<|aU B).2 (by decide),(List.pairwise_cons.mp<|J▸M.sF).2,λ u B=>M.qk u<|J▸.tail _ B,
  xP (P:=N1 x.T) (λ u B=>M.has u<|sub u B) (λ h0=>du (M.has e eQ<|O▸h0) λ t ht z r q=>⟨t,ht,z.trans O.symm,r.trans hr.symm,h1▸Int.lt_of_lt_of_le q (yd (M.num e eQ).2 (by decide))⟩),λ t ht=>?_,M.dk,M.qM,
  λ n hn=>yd (M.Hn n hn) (by decide),M.hd.trans<|.of_eq<|fF λ i hi=>⟨λ h=>xP (λ u B=>h u<|sub u B)<|O▸h e eQ,λ h u B=>?_⟩,M.pq,yd M.tE (by decide)⟩
 .refine eG (M.th t ht) λ a b c d f=>⟨a,b,c,?_,f⟩;show t.n=((x.S++[e'])++Q).countP (λ e=>e.k==t.k);rw[d,Il,O,J];exact Nw List.perm_middle t.k
 .exact(dc B).elim (λ h'=>h u<|aU<|aU h') λ h'=>(bG (J▸h':u∈e::Q)).elim (λ q=>q▸O▸h e' (aU<|aF m0)) λ h'=>h u<|aF h'
end
def ia(i:Int)(v:Value):Prop:=∃t,v=.int i t
def kT(e:El)(v:Value):Prop:=(e.k=0/\v=.none)\/(e.k≠0/\∃t,v=.int e.k t)
noncomputable def pc(l:List El):List Value:=l.map λ e=>.ref e.a
noncomputable def sg(a b l lS O J B lU st kk tn u tn2:Int)(v:Nat):Int:=
 if v=0 then 0 else if v=1 then a else if v=2 then b else if v<900 then l-2+v else if v=901 then lS else if v=902 then O else if v=905 then J else if v=906 then B else if v=907 then lU else if v=908 then st else if v=910 then kk
 else if v=1801 then tn else if v=1802 then u else if v=1803 then tn2 else 0
noncomputable def ta(sv qv xs ys ns hs us:List Value)(k:Nat):List Value:=if k=1 then sv else if k=2 then qv else if k=3 then xs else if k=4 then ys else if k=5 then ns else if k=6 then hs else if k=7 then us else []
section
variable{P:I->Prop}{c:Prop}[Decidable c]{a b:I}
theorem OG(h:c->P a)(k:¬c->P b):P (if c then a else b):=dite c (λ z=>(if_pos z:(if c then a else b)=a).symm▸h z) λ z=>(if_neg z:(if c then a else b)=b).symm▸k z
theorem tH(h:P a)(k:P b):P (if c then a else b):=OG (λ _=>h) λ _=>k
theorem xb(z:¬c)(k:P b):P (if c then a else b):=OG (λ h=>absurd h z) λ _=>k
theorem RM(z:c)(k:P a):P (if c then a else b):=OG (λ _=>k) λ h=>absurd z h
end
abbrev B2(x:Int):Prop:=20<x/\x<=90000
abbrev B5(x:Int):Prop:=0<=x/\x<=5000
abbrev Ab(y x:Int):Prop:=y<x
abbrev Be(y x:Int):Prop:=x<y
abbrev Sh(l:List Value):Prop:=l.length<=10000
variable{kk:Int}{sv qv:List Value}
theorem I5{d:Nat}{a b l lS lQ O J lU st u way:Int}{xs ys ns hs}(h1:20<a)(h2:a<b)(h3:b<=l)(h4:l<=5000)(hS:0<=lS/\lS<=5000)(hQ:0<=lQ/\lQ<=5000)(hN:0<=O/\O<=5000)(hH:0<=J/\J<=5000)(hU:0<=lU/\lU<=5000)(D8:0<=st/\st<=5000)(hk:0<=kk/\kk<=5000)(hd:d≠0)(hu:u.emod d=way)(len:∀v∈[sv,qv,xs,ys,ns,hs,us],v.length<=10000):iH (sg a b l lS lQ O J lU st kk tn u tn2) (ta sv qv xs ys ns hs us) (jV d way):=by
 have e9:∀{v k:Nat},900<=v->k<900->v≠k:=λ h hk=>cV<|ba hk h;have B:∀{v k:Nat},v<1800->1800<=k->v≠k:=λ h hk=>dI<|ba h hk;have low:∀v,0<v->v<900->20<sg a b l lS lQ O J lU st kk tn u tn2 v/\sg a b l lS lQ O J lU st kk tn u tn2 v<=90000:=λ v h0 hv=>
  xb (P:=B2) (cV h0)<|tH ⟨h1,cX (Int.le_of_lt<|Int.lt_of_lt_of_le h2 h3)<|cX h4 (by decide)⟩<|tH ⟨Int.lt_trans h1 h2,cX h3<|cX h4 (by decide)⟩<|RM hv (by lia)
 refine⟨rfl,λ v w h0 hv hw=>?_,λ v h0 hv=>(low v h0 hv).1,λ v hv=>dite (v=0) (λ e=>e▸(by decide:(0:Int)<=90000)) λ e=>(low v (Nat.pos_of_ne_zero e) hv).2,λ v h0 hv=>?_,λ v m x h=>?_,λ k=>?_⟩
 .refine OG (P:=Be<|sg a b l lS lQ O J lU st kk tn u tn2 w) (λ e=>absurd e<|cV h0) λ _=>OG (λ e=>?_) λ n1=>OG (λ e=>?_) λ n2=>RM (dN hv hw) ?_
  .exact xb (P:=Ab a) (cV<|Nat.zero_lt_of_lt hv)<|xb (cV<|e▸hv)<|tH h2<|RM hw (by lia)
  .exact xb (P:=Ab b) (cV<|Nat.zero_lt_of_lt hv)<|xb (cV<|dN (by decide) (e▸hv:2<w))<|xb (cV<|e▸hv)<|RM hw (by lia)
  .exact xb (P:=Ab<|l-2+v) (cV<|Nat.zero_lt_of_lt hv)<|xb (cV<|eh h0 hv)<|xb (cV<|eh (Nat.lt_of_le_of_ne h0<|Ne.symm n1) hv)<|RM hw (by lia)
 .exact xb (P:=B5) (e9 h0 (by decide))<|xb (e9 h0 (by decide))<|xb (e9 h0 (by decide))<|xb (fe h0)<|tH hS<|tH hQ<|tH hN<|tH hH<|tH hU<|tH D8<|tH hk<|xb (B hv (by decide))<|xb (B hv (by decide))<|xb (B hv (by decide)) (by decide)
 .exact kW h λ e1 h=>kW h λ e2 h=>bC e1▸bC e2▸sI h▸⟨hd,hu⟩
 .exact tH (P:=Sh) (len _ m0)<|tH (len _ m1)<|tH (len _ m2)<|tH (len _ m3)<|tH (len _ m4)<|tH (len _ m5)<|tH (len _ m6) (dp _)
theorem Lw{n:Nat}(h:n<=5000):0<=(n:Int)/\(n:Int)<=5000:=⟨Int.natCast_nonneg n,Int.ofNat_le.mpr h⟩
section
variable{Z:Sy}{G:Nat->Addr}{h:Heap}
theorem av{k n:Nat}{v}(H:l_ Z G n h (.seg [] k lv []) v):v=Z.τ k:=by
 refine a5 H λ ps qs a b e=>?_;have:ps=[]:=eU a.1.symm;clear a;subst this;have:qs=[]:=eU b.1.symm;clear b;subst this;simpa using e
theorem dW{k:Nat}{v}{x}(H:l_ Z G 256 h (.seg [] k lv [x]) v):∃u,VR Z G 256 h x u/\v=Z.τ k++[u]:=by
 refine a5 H λ ps qs a b e=>?_;have:ps=[]:=eU a.1.symm;clear a;subst this;refine a5 b.gf λ u l B r t=>?_;clear b;subst B;have:l=[]:=eU t.1.symm;clear t;subst this;exact⟨u,r,by simpa using e⟩
theorem yu{k:Nat}{v}{x}(H:l_ Z G 256 h (.seg [x] k lv []) v):∃u,VR Z G 256 h x u/\v=u::Z.τ k:=by
 refine a5 H λ ps qs a b e=>?_;have:qs=[]:=eU b.1.symm;clear b;subst this;refine a5 a.gf λ u l B r t=>?_;clear a;subst B;have:l=[]:=eU t.1.symm;clear t;subst this;exact⟨u,r,by simpa using e⟩
theorem dx{n:Nat}{v}(H:l_ Z G n h (.list []) v):v=[]:=eU H.1.symm
theorem yR{v:Nat}{o i:Int}{t:Tok}(e:Z.σ v+o=i):VR Z G 256 h (.i v o) (.int i t):=by subst e;exact .i v o t
theorem rV{v:Nat}{o:Int}(H:VR Z G 256 h (.i v o) u):ia (Z.σ v+o) u:=by cases H;exact⟨_,rfl⟩
theorem rU{a:Nat}(H:VR Z G 256 h (.r a) u):u=.ref (G a):=by cases H;rfl
theorem Gf(H:VR Z G 256 h .none u):u=.none:=by cases H;rfl
theorem F2.app{l l':List I}{k k':List β}(x:F2 R l k)(y:F2 R l' k'):F2 R (l++l') (k++k'):=by
 induction x with|nil=>exact y|cons a _ ih=>exact .cons a ih
theorem F2.cg{l:List I}{v k:List β}(h:F2 R l k)(e:v=k):F2 R l v:=e▸h
theorem F2.pC{k:List β}(x:F2 R [] k):k=[]:=by cases x;rfl
theorem F2.snoc_inv{l:List I}{a:I}{k:List β}(x:F2 R (l++[a]) k):∃k' b,k=k'++[b]/\F2 R l k'/\R a b:=by
 induction l generalizing k with
 |nil=>cases x with|cons r t=>cases t;exact(fc ([]) _ rfl (.nil) r)
 |cons c l ih=>
  cases x with|cons r t=>
   refine a5 (ih t) λ k' b B f g=>?_;clear t;subst B;exact(fc (_::k') b rfl (.cons r f) g)
end
def qI(Z:Sy)(G:Nat->Addr)(n:Nat)(h:Heap)(o:AO)(v:List Value):Prop:=match o with|.seg p k lv q=>(∃ps qs,br Z G n h p ps/\br Z G n h q qs/\v=ps++Z.τ k++qs)/\Z.σ lv=(Z.τ k).length/\p.length+q.length<=10000|.list xs=>br Z G n h xs v/\xs.length<=10000|_=>False
section
variable{Z:Sy}{G:Nat->Addr}{h:Heap}{k n:Nat}{v:List Value}{x:AV}{u':Value}
theorem qI.or{ca:Nat->Obj}{ch:Nat->Nat->FuncData->Prop}{w}{a:Addr}{o}(H:(LF ca ch a v).Ok w h)(S:qI Z G n h o v):OR Z w G n h a o:=by
 cases o<;>first|exact S.elim|skip
 .exact AR (H.ob _<|.head _) rfl S.1 S.2
 .exact a5 S.1 λ ps qs a b e=>CC (H.ob _<|.head _) e a b S.2.1 S.2.2
theorem w7(e:v=Z.τ k)(hl:Z.σ lv=(Z.τ k).length):qI Z G n h (.seg [] k lv []) v:=⟨⟨[],[],.nil,.nil,e.trans (List.append_nil _).symm⟩,hl,dp _⟩
theorem Pm(r:VR Z G n h x u)(e:v=Z.τ k++[u])(hl:Z.σ lv=(Z.τ k).length):qI Z G n h (.seg [] k lv [x]) v:=⟨⟨[],[u],.nil,.cons r .nil,e⟩,hl,d5 _⟩
theorem shF(r:VR Z G n h x u)(e:v=u::Z.τ k)(hl:Z.σ lv=(Z.τ k).length):qI Z G n h (.seg [x] k lv []) v:=⟨⟨[u],[],.cons r .nil,.nil,e.trans (List.append_nil _).symm⟩,hl,d5 _⟩
theorem Ol(e:v=[]):qI Z G n h (.list []) v:=e▸⟨.nil,dp _⟩
theorem AU{n m:Nat}{i:Int}(a:i=n)(b:n=m):i=m:=b▸a
theorem VE(B:V 123=Z.τ 1)(J:V 11=Z.τ 3)(h1:Z.σ 901=(Z.τ 1).length)(O:(Z.τ 1).length=(Z.τ 3).length):∀q∈gX [] [],qI Z G n h q.2 (V q.1):=aC (w7 B h1)<|aC (w7 J<|AU h1 O) aZ
theorem VF(B:V 46=Z.τ 2)(J:V 12=Z.τ 4)(h1:Z.σ 902=(Z.τ 2).length)(O:(Z.τ 2).length=(Z.τ 4).length):∀q∈jm [] [],qI Z G n h q.2 (V q.1):=aC (w7 B h1)<|aC (w7 J<|AU h1 O) aZ
theorem Pl(r:VR Z G n h x u)(r':VR Z G n h y u')(B:V 123=Z.τ 1++[u])(J:V 11=Z.τ 3++[u'])(h1:Z.σ 901=(Z.τ 1).length)(O:(Z.τ 1).length=(Z.τ 3).length):∀q∈gX [x] [y],qI Z G n h q.2 (V q.1):=aC (Pm r B h1)<|aC (Pm r' J<|AU h1 O) aZ
theorem Xe(r:VR Z G n h x u)(r':VR Z G n h y u')(B:V 46=Z.τ 2++[u])(J:V 12=u'::Z.τ 4)(h1:Z.σ 902=(Z.τ 2).length)(O:(Z.τ 2).length=(Z.τ 4).length):∀q∈jm [x] [y],qI Z G n h q.2 (V q.1):=aC (Pm r B h1)<|aC (shF r' J<|AU h1 O) aZ
end
structure LV(x:Ws)(us:List Value)(V:Nat->List Value):Prop where
 N:F2 ia x.N (V 3)
 U:V 7=us
 H:F2 ia x.H (V 10)
 s:V 123=pc x.S
 X:F2 kT x.S (V 11)
 q:V 46=(pc x.Q).reverse
 Y:F2 kT x.Q<|V 12
theorem LV.ls{x:Ws}(L:LV x us V):(V 123).length=x.S.length:=L.s▸List.length_map _
theorem LV.lq{x:Ws}(L:LV x us V):(V 46).length=x.Q.length:=L.q▸List.length_reverse.trans (List.length_map _)
section
variable(ca:Nat->Obj)(ch:Nat->Nat->FuncData->Prop)(w:World)
def mW(x:Ws):List io:=(x.S++x.Q).map (El.P ca ch)++x.T.map (Th.P ca ch)
def J2(F:List<|Nat×AO)(c:Nat)(G:Nat->Addr)(x:Ws)(V:Nat->List Value)(Rs:List io):List io:=
 fP ca ch F G x.l x.st x.tn (x.m.T c) x.m.K::(ed ca ch G V++mW ca ch x++Rs)
structure Inv(h:Heap)(F:List<|Nat×AO)(c:Nat)(G:Nat->Addr)(x:Ws)(us:List Value)(Rs:List io):Prop where
 own:∃V,on w h (J2 ca ch F c G x V Rs)/\LV x us V
structure Bd(x:Ws)(b:Nat):Prop where
 S:x.S.length<=b
 Q:x.Q.length<=b
 N:x.N.length<=b
 H:x.H.length<=b
 l:x.l<=26+7*b
 st:0<=x.st/\x.st<=2+2*b
 b:b<=100
end
variable{tu:Tok}{E2:List<|List (Nat×AO)×List (Nat×Nat×Int)}{off:Int}{W:Nat->List Value}{lc:List<|Nat×AO}
section
variable{ca:Nat->Obj}{ch:Nat->Nat->FuncData->Prop}{w:World}{G:Nat->Addr}{s:Shared}{F:List<|Nat×AO}{b:Nat}{u:Int}{x:Ws}{tok:Tok}{Q:Flow->Shared->Prop}{E:Value->Shared->Prop}
structure Given(ca:Nat->Obj)(ch:Nat->Nat->FuncData->Prop)(A:Around)(env:PySem.Env)(sc:Scope)(G:Nat->Addr)(F:List<|Nat×AO)(bv c j:Nat)(bo l:Int)(kl:PySem.Expr)(body:List Stmt):Prop where
 C:∀σ τ k,kV (bD σ τ ca ch) (XW k) ig ja
 hc:c=2\/c=3
 hF:l8 F
 N:a7 (bD (λ _=>0) (λ _=>[]) ca ch) G 256 0 [(321,1)] sc env
 hT:gV NM sc (.l 328) kl=true
 hB:aV (dn NM ig ja j sc) m_ body=true
 r:bt 250 A
 hb:(bv=3/\bo=0)\/(bv=0/\bo=l+1)
abbrev BO(w:World)(h:Heap)(P:io):Prop:=∀q∈P.l,OR P.Z w P.G 256 h (P.G q.1) q.2
theorem sY{σ:Nat->Int}{h}{e:El}{b:Nat}(H:nK ca ch w σ E2 aa h)(hb:b=200\/b=220)(J:(mO b e.x,[(0,0,0),(2,bv,off)])∈E2)(z0:σ 0=0)(O:e.num=σ bv+off)(ha:aa b=e.a)(B:aa (b+1)=e.b)(hc:aa (b+2)=e.c)(hr:aa 213=e.r):BO w h (El.P ca ch e):=
 MO (σ₂:=e.σ) (τ₂:=λ _=>[]) hb e rfl rfl ha B hc hr (H _ J _ _<|OF (P:=λ v(p:Nat×Int)=>e.σ v=σ p.1+p.2)<|aC (z0.symm▸rfl)<|aC O aZ)
theorem xI{σ:Nat->Int}{h}{t:Th}{kv:Nat}{ko:Int}(H:nK ca ch w σ E2 aa h)(J:t.n=1\/t.n=2)(O:(nN t.n,[(0,0,0),(1,bv,off),(910,kv,ko)])∈E2)(z0:σ 0=0)(hn:t.num=σ bv+off)(hk:t.k=σ kv+ko)(ha:aa 210=t.a)(B:aa 211=t.b)(hc:aa 212=t.c)(hr:aa 213=t.r)(hd:aa 214=t.d):BO w h (Th.P ca ch t):=
 Kw (σ₂:=t.σ) (τ₂:=λ _=>[]) t J rfl rfl rfl ha B hc hr hd (H _ O _ _<|OF (P:=λ v(p:Nat×Int)=>t.σ v=σ p.1+p.2)<|aC (z0.symm▸rfl)<|aC hn<|aC hk aZ)
theorem Ew:dj []=[]:=rfl
theorem El.WZ{e:El}(h:e.k≠0):e.x=.r 213:=if_neg h
theorem El.qy{e:El}(h:e.k=0):e.x=.none:=if_pos h
noncomputable def vz(V:Nat->List Value)(us sv xs qv ys:List Value)(i:Nat):List Value:=if i=7 then us else if i=123 then sv else if i=11 then xs else if i=46 then qv else if i=12 then ys else V i
def zv(ca:Nat->Obj)(ch:Nat->Nat->FuncData->Prop)(a b kk u tn2:Int)(x:Ws)(W:Nat->List Value):Sy:=bD (sg a b x.l (W 123).length (W 46).length (W 3).length (W 10).length (W 7).length x.st kk x.tn u tn2) (ta (W 123) (W 46) (W 11) (W 12) (W 3) (W 10)<|W 7) ca ch
noncomputable def rv(G f:Nat->Addr)(i:Nat):Addr:=if i<200 then G i else f i
theorem QZ(k c:Int)(n:Nat):c+k*(n:Int)+k=c+k*((n+1:Nat):Int):=(Int.add_assoc ..).trans<|congrArg (c+ ·) (by rw[Int.natCast_succ,Int.mul_add,Int.mul_one])
theorem QY{k:Int}{n:Nat}(h:n<=100)(B:0<=k):k*(n:Int)<=k*100:=Int.mul_le_mul_of_nonneg_left (Int.ofNat_le.mpr h) B
theorem Rz(l:Int):l-2+3=l+1:=by lia
theorem kls(k:Kd):(Ik++k.ls).map (·.1)=iR:=by cases k<;>rfl
theorem Y5(k:Kd):0<=k.dl/\k.dl<=7/\0<=k.ds/\k.ds<=2:=by cases k<;>decide
theorem Lz{m:re}(h:m.pq=true->m.ps=true)(k:Kd):(k.mem m).pq=true->(k.mem m).ps=true:=by cases k<;>first|exact h|exactλ _=>rfl
theorem U6{L E R S:List I}:L++(E++R)++S=L++E++(R++S):=by simp only[List.append_assoc]
def Sz(y:Ws)(m:Nat):Prop:=y.S.length<=m/\y.Q.length<=m/\y.N.length<=m/\y.H.length<=m
theorem Bd.sz(B:Bd x b):Sz x (b+1):=⟨de B.S,de B.Q,de B.N,de B.H⟩
theorem LV.len{n:Nat}(L:LV x us V)(B:Bd x n)(J:n<=100)(O:us.length<=100):∀i∈iR,(V i).length<=100:=
 aC (L.N.length▸ae B.N J)<|aC (L.U▸O)<|aC (L.H.length▸ae B.H J)<|aC (L.ls▸ae B.S J)<|aC (L.X.length▸ae B.S J)<|aC (L.lq▸ae B.Q J)<|aC (L.Y.length▸ae B.Q J) aZ
theorem yQ{d:Nat}{a b' way:Int}{n:Nat}(h1:20<a)(h2:a<b')(h3:b'<=x.l)(B:Bd x n)(hk:0<=kk/\kk<=5000)(hd:d≠0)(hu:u.emod d=way)(hW:∀i∈iR,(W i).length<=100):iH (zv ca ch a b' kk u tn2 x W).σ (zv ca ch a b' kk u tn2 x W).τ (jV d way):=by
 have bl:=B.l;have UW:=B.st;have bb:=B.b;have O:∀i∈iR,0<=((W i).length:Int)/\((W i).length:Int)<=5000:=λ i hi=>Lw<|ae (hW i hi) (by decide);have J:∀i∈iR,(W i).length<=10000:=λ i hi=>ae (hW i hi) (by decide);exact I5 h1 h2 h3 (cX bl<|cX (Int.add_le_add_left (QY bb (by decide)) 26) (by decide)) (O _ m3) (O _ m5) (O _ m0) (O _ m2) (O _ m1) ⟨UW.1,cX UW.2<|cX (Int.add_le_add_left (QY bb (by decide)) 2) (by decide)⟩ hk hd hu<|aC (J _ m3)<|aC (J _ m5)<|aC (J _ m4)<|aC (J _ m6)<|aC (J _ m0)<|aC (J _ m2)<|aC (J _ m1) aZ
theorem Vy{a b':Int}:∀v∈[0,3,908,1801],(zv ca ch a b' kk u tn2 x W).σ v=BZ x.l x.st x.tn v:=aC rfl<|aC (Rz x.l)<|aC rfl<|aC rfl aZ
theorem ry{ls:List<|Nat×AO}{h}{a b':Int}(hc:c=2\/c=3)(hF:l8 F)(O:on w h<|J2 ca ch F c G x V Rs)(J:ls.map (·.1)=iR)(uE:∀q∈ls,qI (zv ca ch a b' kk u tn2 x W) G 256 h q.2<|V q.1):
  SR (zv ca ch a b' kk u tn2 x W) w G ⟨j5<|F++dw++[(44,x.m.T c),(56,x.m.K)]++ls,256⟩ h/\Apart G ⟨j5<|F++dw++[(44,x.m.T c),(56,x.m.K)]++ls,256⟩ (mW ca ch x++Rs)/\on w h (mW ca ch x++Rs):=by
 have B:on w h (fP ca ch F G x.l x.st x.tn (x.m.T c) x.m.K::(ed ca ch G V++[]++(mW ca ch x++Rs))):=by rw[List.append_nil,<-List.append_assoc];exact O
 have ok:∀i∈iR,(LF ca ch (G i)<|V i).Ok w h:=λ i hi=>B.ok _<|.tail _<|aU<|aU<|bU hi;have R:=mx (be:=[]) (ρV:=G) (by decide) hc hF B (λ q hq=>qI.or (ok q.1<|J▸bU hq)<|uE q hq) J aZ rfl (λ _ _=>rfl)<|Vy (ca:=ca) (ch:=ch);rw[List.append_nil]at R;exact⟨R.1,R.2,B.right (Ps:=fP ca ch F G x.l x.st x.tn (x.m.T c) x.m.K::(ed ca ch G V++[]))⟩
theorem rA{h}{a b':Int}(hc:c=2\/c=3)(hF:l8 F)(S:SR (zv ca ch a b' kk u tn2 x W) w G st h)(R:on w h<|mW ca ch x++Rs)(ap:Apart G st<|mW ca ch x++Rs)(Sr:lc.all (λ q=>Dt q.2)=true)(J:lc.map (·.1)=iR)(nd:((F++dw++[(44,x.m.T c),(56,x.m.K)]++lc).map λ q:Nat×AO=>q.1).Nodup)(at':∀q∈F++dw++[(44,x.m.T c),(56,x.m.K)]++lc,st.T.get q.1=some q.2):∃V,(∀q∈lc,l_ (zv ca ch a b' kk u tn2 x W) G st.nx h q.2<|V q.1)/\on w h (J2 ca ch F c G x V Rs):=
 a8 (KL (f:=λ i=>i) (ks:=[]) (Es:=[]) S R ap (λ q B=>⟨q.2,at' q<|aU B,OR.ie (JC (by decide) (λ _ _=>rfl) λ v hv=>(Vy (ca:=ca) (ch:=ch) v hv).symm) gu (S.ob _ _<|at' q<|aU B) (I8 hc hF q B).2⟩) (λ q B=>⟨q.2,at' q<|aF B,S.ob _ _<|at' q<|aF B⟩) Sr J aZ
  (by rw[List.map_id',List.append_nil,<-J,<-List.map_append];exact nd) rfl aZ) λ W C O=>⟨W,C,by rw[List.append_nil,<-List.append_assoc]at O;exact O⟩
variable{k:Kd}{a:Int}{f:Nat->Addr}{xs ys:List Value}{rest:List io}{n:Nat}(ρ:Given ca ch A env sc G F bv c j bo x.l kl body)(O:on w s.heap<|J2 ca ch F c G x V Rs)(L:LV x (us++[.int u tu]) V)(M:Ma x)(B:Bd x n)(hn:n<100)(eZ:us.length<=100)(q:∀aa x' s',Sm s s'->aa 0=G 0->aa 1=G 1->Inv ca ch w s'.heap (cx c) c aa x' us Rs->Ma x'->Bd x' (n+1)->Q .next s')(hu:u.emod 5=k.way)(D:gK (XW k) k bv bo c (k.view F (x.m.T c) x.m.K)=some ((k.mem x.m).T c,(k.mem x.m).K))
include ρ O L M B hn eZ hu D q
theorem uR{b:Int}(h1:20<a)(h2:a<b)(h3:b<=x.l)(hk:0<=kk/\kk<=5000)(sz:sv.length<=100/\qv.length<=100)(eX:sv.length=xs.length)(eY:qv.length=ys.length)(pe:(mW ca ch x).Perm<|Es++rest)(uE:∀q∈k.ls,qI (zv ca ch a b kk u tn2 x<|vz V us sv xs qv ys) (rv G f) 256 s.heap q.2<|V q.1)(he:(∀P∈Es,P.Ok w s.heap)->(∀q∈k.be,q.1<256/\OR (zv ca ch a b kk u tn2 x<|vz V us sv xs qv ys) w (rv G f) 256 s.heap (rv G f q.1) q.2)/\k.be.map (λ q=>rv G f q.1)=dj Es)(oK:(Nat->Addr)->List io)(FW:∀aa,dj (oK aa)=((k.qH bv bo).flatMap λ e=>e.1.map (·.1)).map aa)(FV:∀aa h,(zv ca ch a b kk u tn2 x<|vz V us sv xs qv ys).σ bv+bo=x.l+1->nK ca ch w (zv ca ch a b kk u tn2 x<|vz V us sv xs qv ys).σ (k.qH bv bo) aa h->∀P∈oK aa,BO w h P)(fin:∀aa h bO,(k.keeps=true->∀i∈ux,aa i=f i)->(zv ca ch a b kk u tn2 x<|vz V us sv xs qv ys).σ bv+bo=x.l+1->(∀q∈k.vW bv bo,l_ (zv ca ch a b kk u tn2 x<|vz V us sv xs qv ys) aa 256 h q.2<|bO q.1)->
   ∃y:Ws,(oK aa++rest).Perm (mW ca ch y)/\LV y us bO/\Ma y/\y.l<=x.l+k.dl/\Sz y (n+1)):
  aD w A (assign kl env<|.int tn2 tok) (λ _ ci=>aD w A (execs body env) Q E ci) E s:=by
 have bl:=B.l;have UW:=B.st;have O1:on w s.heap (fP ca ch F G x.l x.st x.tn (x.m.T c) x.m.K::(ed ca ch G V++Es++(rest++Rs))):=O.perm<|.cons _<|U6▸(List.Perm.append_left _ pe).append_right Rs;have Sg:iH (zv ca ch a b kk u tn2 x<|vz V us sv xs qv ys).σ (zv ca ch a b kk u tn2 x<|vz V us sv xs qv ys).τ (jV 5 k.way):=yQ h1 h2 h3 B hk (by decide) hu<|aC (L.N.length▸ae B.N B.b)<|aC eZ<|aC (L.H.length▸ae B.H B.b)<|aC sz.1<|aC (eX▸sz.1)<|aC sz.2<|aC (eY▸sz.2) aZ;have hb:(zv ca ch a b kk u tn2 x<|vz V us sv xs qv ys).σ bv+bo=x.l+1:=ρ.hb.elim (λ e=>by rw[e.1,e.2];exact(Int.add_zero _).trans<|Rz x.l) λ e=>by rw[e.1,e.2];exact Int.zero_add _
 have ok:∀i∈iR,(LF ca ch (G i)<|V i).Ok w s.heap:=λ i hi=>O1.ok _<|.tail _<|aU<|aU<|bU hi;refine xA (he λ P hP=>O1.ok P<|.tail _<|aU<|aF hP) λ he OI=>?_;refine ER (k:=k) (ρV:=rv G f) (Es:=Es) (Rs:=rest++Rs) (V:=V) (bv:=bv) (bo:=bo) (σ:=(zv ca ch a b kk u tn2 x<|vz V us sv xs qv ys).σ) (τ:=(zv ca ch a b kk u tn2 x<|vz V us sv xs qv ys).τ) Sg (ρ.C _ _ _) ρ.hc ρ.hF O1
  (λ q hq=>qI.or (ok q.1<|kls k▸bU hq)<|aA (P:=λ q:Nat×AO=>qI (zv ca ch a b kk u tn2 x<|vz V us sv xs qv ys) (rv G f) 256 s.heap q.2<|V q.1) (aC (w7 rfl rfl)<|aC (Pm (yR<|Int.add_zero _) L.U rfl)<|aC (w7 rfl rfl) aZ) uE q hq) he OI (λ i hi=>if_pos hi) Vy
  (ρ.N.Je rfl rfl (λ x c h=>⟨rfl,(ρ.N.cells x c h).1⟩)<|d5 _) ρ.hT ρ.hB ρ.r rfl D hb oK FW (λ aa h=>FV aa h hb) λ aa s' bO sm r0 r1 kp cont O'=>?_
 refine du (fin aa s'.heap bO (λ hk i hi=>(kp hk i hi).trans<|if_neg<|(by decide:∀i∈ux,¬i<200) i hi) hb cont) λ y L' J M' fy=>xA fy λ yl z=>?_;have kd:=Y5 k;exact q aa {y with l:=x.l+k.dl,st:=x.st+k.ds,tn:=tn2,m:=k.mem x.m} s' sm r0 r1 ⟨bO,O'.perm<|.cons _<|U6▸(List.Perm.append_left _ L').append_right Rs,⟨J.N,J.U,J.H,J.s,J.X,J.q,J.Y⟩⟩ (M'.idle yl<|Lz M.pq k)
  ⟨z.1,z.2.1,z.2.2.1,z.2.2.2,cX (Int.add_le_add bl kd.2.1)<|Int.le_of_eq<|QZ 7 26 n,⟨Int.add_nonneg UW.1 kd.2.2.1,cX (Int.add_le_add UW.2 kd.2.2.2)<|Int.le_of_eq<|QZ 2 2 n⟩,hn⟩
end
section
variable{S Q:List I}{e e':I}{f:I->β}{R:List β}
theorem VL:(f e::((S++Q).map f++R)).Perm ((S++[e]++Q).map f++R):=by
 rw[List.append_assoc,List.singleton_append,List.map_append,List.map_append,List.map_cons,List.append_assoc,List.append_assoc];exact List.perm_middle.symm
theorem pmQ:(f e::((S++Q).map f++R)).Perm ((S++(Q++[e])).map f++R):=by
 rw[<-List.append_assoc,List.map_append (l₂:=[e]),List.append_assoc];exact List.perm_middle.symm
theorem pmF:(f e::((S++Q).map f++R)).Perm ((S++e::Q).map f++R):=by
 rw[List.map_append,List.map_append,List.map_cons,List.append_assoc,List.append_assoc];exact List.perm_middle.symm
theorem pm1{g:γ->β}{d:γ}{T:List γ}:([g d]++(R++T.map g)).Perm (R++(d::T).map g):=(List.perm_middle (a:=g d) (l₁:=R) (l₂:=T.map g)).symm
theorem L_{g:γ->β}{d:γ}{T:List γ}:([f e,g d]++((S++Q).map f++T.map g)).Perm (((S++[e])++Q).map f++(d::T).map g):=(List.Perm.cons (f e) (List.perm_middle (a:=g d) (l₁:=(S++Q).map f) (l₂:=T.map g)).symm).trans VL
theorem Qd{g:γ->β}{d:γ}{T:List γ}:([f e,g d]++((S++Q).map f++T.map g)).Perm ((S++e::Q).map f++(d::T).map g):=(List.Perm.cons (f e) (List.perm_middle (a:=g d) (l₁:=(S++Q).map f) (l₂:=T.map g)).symm).trans pmF
theorem pm3{g:γ->β}{d:γ}{T:List γ}:([f e,f e',g d]++((S++Q).map f++T.map g)).Perm (((S++[e])++(Q++[e'])).map f++(d::T).map g):=(List.Perm.cons _<|(List.Perm.cons _ List.perm_middle.symm).trans pmQ).trans VL
end
variable{Q':List El}
section
variable{ca:Nat->Obj}{ch:Nat->Nat->FuncData->Prop}{w:World}{G:Nat->Addr}{s:Shared}{F:List<|Nat×AO}{b:Nat}{u:Int}{x:Ws}{tok:Tok}{Q:Flow->Shared->Prop}{E:Value->Shared->Prop}
theorem Inv.ke{h}{T}(α:Inv ca ch w h F c G x us Rs)(p:x.T.Perm T):Inv ca ch w h F c G {x with T:=T} us Rs:=
 a8 α.own λ V O L=>⟨V,O.perm<|.cons _<|.append_right _<|.append_left _<|.append_left _<|p.map _,L.N,L.U,L.H,L.s,L.X,L.q,L.Y⟩
theorem f6{e:El}{v}{u}(h:v=pc S)(B:u=.ref e.a):v++[u]=pc (S++[e]):=by rw[h,B];exact(List.map_append (l₂:=[e])).symm
theorem CP{e:El}{v}{u}(h:v=(pc S).reverse)(B:u=.ref e.a):u::v=(pc<|S++[e]).reverse:=by rw[h,B,<-f6 rfl rfl,List.reverse_append];rfl
theorem AS{l:List I}{a:I}{n:Nat}(h:l.length<=n):(l++[a]).length<=n+1:=List.length_append▸Nat.succ_le_succ h
noncomputable def et(e:El)(t:Th)(i:Nat):Addr:=if i<210 then e.G i else t.G i
theorem CV{σ:Nat->Int}{h}{e:El}{t:Th}(ek:e.k≠0)(B:t.n=1\/t.n=2)(O:t.r=e.r)(h0:σ 0=0)(h2:σ 2=e.num)(h1:σ 1=t.num)(J:σ 910=t.k)(ok:∀P∈[El.P ca ch e,Th.P ca ch t],P.Ok w h):
  (∀q∈mO 200 (.r 213)++nN t.n,q.1<256/\OR (bD σ τ ca ch) w (rv G<|et e t) 256 h (rv G (et e t) q.1) q.2)/\(mO 200 (.r 213)++nN t.n).map (λ q=>rv G (et e t) q.1)=dj [El.P ca ch e,Th.P ca ch t]:=by
 have a:=zL (σ:=σ) (τ:=τ) (ρV:=rv G<|et e t) e (ok _<|.head _) h0 h2<|aC rfl<|aC rfl<|aC rfl<|aC O aZ;have b:=Gs (σ:=σ) (τ:=τ) (ρV:=rv G<|et e t) t B (ok _<|.tail _<|.head _) h0 h1 J<|aC rfl<|aC rfl<|aC rfl<|aC rfl<|aC rfl aZ;rw[El.WZ ek]at a;exact⟨aA a.1 b.1,by rw[List.map_append,a.2,b.2,f_,f_,Ew,List.append_nil]⟩
theorem Py{e:El}{v}(h:kT e v)(B:e.k≠0):∃t,v=.int e.k t:=h.elim (λ z=>absurd z.1 B) (·.2)
variable{n:Nat}(ρ:Given ca ch A env sc G F bv c j bo x.l kl body)(O:on w s.heap<|J2 ca ch F c G x V Rs)(L:LV x (us++[.int u tu]) V)(M:Ma x)(B:Bd x n)(hn:n<100)(eZ:us.length<=100)(q:∀aa x' s',Sm s s'->aa 0=G 0->aa 1=G 1->Inv ca ch w s'.heap (cx c) c aa x' us Rs->Ma x'->Bd x' (n+1)->Q .next s')
abbrev DK(x:Ws)(F:List<|Nat×AO)(bv c:Nat)(bo:Int)(k:Kd):Prop:=gK (XW k) k bv bo c (k.view F (x.m.T c) x.m.K)=some ((k.mem x.m).T c,(k.mem x.m).K)
include ρ O L M B hn eZ q
theorem jI{k:Kd}(hu:u.emod 5=k.way)(D:DK x F bv c bo k)(e1:k.be=[])(uE:∀Z:Sy,Z.τ 1=V 123->Z.τ 2=V 46->Z.τ 3=V 11->Z.τ 4=V 12->Z.σ 901=(Z.τ 1).length->Z.σ 902=(Z.τ 2).length->∀q∈k.ls,qI Z (rv G λ _=>0) 256 s.heap q.2<|V q.1)(oK:(Nat->Addr)->List io)(FW:∀aa,dj (oK aa)=((k.qH bv bo).flatMap λ e=>e.1.map (·.1)).map aa)(FV:∀(Z:Sy) aa h,Z.σ 0=0->Z.σ 905=(V 3).length->Z.σ bv+bo=x.l+1->nK ca ch w Z.σ (k.qH bv bo) aa h->∀P∈oK aa,BO w h P)(fin:∀(Z:Sy) aa h J,Z.τ 1=V 123->Z.τ 2=V 46->Z.τ 3=V 11->Z.τ 4=V 12->Z.τ 5=V 3->Z.τ 6=V 10->Z.τ 7=us->Z.σ 905=(V 3).length->Z.σ bv+bo=x.l+1->(∀q∈k.vW bv bo,l_ Z aa 256 h q.2<|J q.1)->∃y:Ws,(oK aa++mW ca ch x).Perm (mW ca ch y)/\LV y us J/\Ma y/\y.l<=x.l+k.dl/\Sz y (n+1)):
  aD w A (assign kl env<|.int tn2 tok) (λ _ ci=>aD w A (execs body env) Q E ci) E s:=
 uR (f:=λ _=>0) (a:=x.l-1) (b:=x.l) (kk:=0) (sv:=V 123) (xs:=V 11) (qv:=V 46) (ys:=V 12) (Es:=[]) (rest:=mW ca ch x) ρ O L M B hn eZ q hu D (Int.lt_of_lt_of_le (by decide)<|Int.sub_le_sub_right M.tE 1) (Int.sub_lt_self _ (by decide)) (Int.le_refl _) (by decide) ⟨L.ls▸ae B.S B.b,L.lq▸ae B.Q B.b⟩ (L.ls.trans L.X.length) (L.lq.trans L.Y.length) (.refl _)
  (uE _ rfl rfl rfl rfl rfl rfl) (λ _=>e1▸⟨aZ,rfl⟩) oK FW (λ aa h=>FV _ aa h rfl rfl) λ aa h J _=>fin _ aa h J rfl rfl rfl rfl rfl rfl rfl rfl
theorem Sw(hu:u.emod 5=2)(D:DK x F bv c bo .s0)(J:x.S=[]):aD w A (assign kl env<|.int tn2 tok) (λ _ ci=>aD w A (execs body env) Q E ci) E s:=
 have s0:V 123=[]:=L.s.trans<|J▸rfl;have s1:V 11=[]:=F2.pC (J▸L.X)
 jI (k:=.s0) ρ O L M B hn eZ q hu D rfl (λ Z a b c d e f=>aC (Ol s0)<|aC (Ol s1)<|VF b.symm d.symm f<|b▸d▸L.lq.trans L.Y.length) (λ _=>[]) (λ _=>rfl) (λ _ _ _ _ _ _ _=>aZ)
  λ Z aa h bO a b c d e f g _ _ C=>gZ x (.refl _) ⟨L.N.cg<|(av<|C (3,.seg [] 5 905 []) m0).trans e,(av<|C (7,.seg [] 7 907 []) m1).trans g,L.H.cg<|(av<|C (10,.seg [] 6 906 []) m2).trans f,(dx<|C (123,.list []) m3).trans<|s0.symm.trans L.s,L.X.cg<|(dx<|C (11,.list []) m4).trans s1.symm,(av<|C (46,.seg [] 2 902 []) m5).trans<|b.trans L.q,L.Y.cg<|(av<|C (12,.seg [] 4 902 []) m6).trans d⟩ M (yd (Int.le_refl _) (by decide)) B.sz
theorem SA(hu:u.emod 5=3)(D:DK x F bv c bo .q0)(J:x.Q=[]):aD w A (assign kl env<|.int tn2 tok) (λ _ ci=>aD w A (execs body env) Q E ci) E s:=
 have s0:V 46=[]:=L.q.trans<|J▸rfl;have s1:V 12=[]:=F2.pC (J▸L.Y)
 jI (k:=.q0) ρ O L M B hn eZ q hu D rfl (λ Z a b c d e f=>aA (VE a.symm c.symm e<|a▸c▸L.ls.trans L.X.length)<|aC (Ol s0)<|aC (Ol s1) aZ) (λ _=>[]) (λ _=>rfl) (λ _ _ _ _ _ _ _=>aZ)
  λ Z aa h bO a b c d e f g _ _ C=>gZ x (.refl _) ⟨L.N.cg<|(av<|C (3,.seg [] 5 905 []) m0).trans e,(av<|C (7,.seg [] 7 907 []) m1).trans g,L.H.cg<|(av<|C (10,.seg [] 6 906 []) m2).trans f,(av<|C (123,.seg [] 1 901 []) m3).trans<|a.trans L.s,L.X.cg<|(av<|C (11,.seg [] 3 901 []) m4).trans c,(dx<|C (46,.list []) m5).trans<|s0.symm.trans L.q,L.Y.cg<|(dx<|C (12,.list []) m6).trans s1.symm⟩ M (yd (Int.le_refl _) (by decide)) B.sz
theorem SE(hu:u.emod 5=4)(D:DK x F bv c bo .m0)(J:x.Q=[]):aD w A (assign kl env<|.int tn2 tok) (λ _ ci=>aD w A (execs body env) Q E ci) E s:=
 have s0:V 46=[]:=L.q.trans<|J▸rfl;have s1:V 12=[]:=F2.pC (J▸L.Y)
 jI (k:=.m0) ρ O L M B hn eZ q hu D rfl (λ Z a b c d e f=>aA (VE a.symm c.symm e<|a▸c▸L.ls.trans L.X.length)<|aC (Ol s0)<|aC (Ol s1) aZ) (λ aa=>[El.P ca ch ⟨aa 200,aa 201,aa 202,aa 213,x.l+4,0⟩]) (λ _=>rfl)
  (λ Z aa h z0 _ hb H=>aC (sY (b:=200) (bv:=bv) (off:=bo+3) H (.inl rfl) (.head _) z0 (by show x.l+4=_;lia) rfl rfl rfl rfl) aZ)
  λ Z aa h bO a b c d e f g _ _ C=>a8 (dW<|C (123,.seg [] 1 901 [.r 200]) m3) λ u3 r3 e3=>a8 (dW<|C (11,.seg [] 3 901 [.none]) m4) λ u4 r4 e4=>
   gZ {x with S:=x.S++[⟨aa 200,aa 201,aa 202,aa 213,x.l+4,0⟩],l:=x.l+4} VL ⟨L.N.cg<|(av<|C (3,.seg [] 5 905 []) m0).trans e,(av<|C (7,.seg [] 7 907 []) m1).trans g,L.H.cg<|(av<|C (10,.seg [] 6 906 []) m2).trans f,
    e3.trans (f6 (a.trans L.s)<|rU r3),(L.X.app<|.cons (.inl ⟨rfl,Gf r4⟩) .nil).cg<|c▸e4,(dx<|C (46,.list []) m5).trans<|s0.symm.trans L.q,L.Y.cg<|(dx<|C (12,.list []) m6).trans s1.symm⟩ (M.mv0 rfl rfl) (Int.le_refl _) ⟨AS B.S,de B.Q,de B.N,de B.H⟩
theorem Ek{k:Kd}(hu:u.emod 5=k.way)(D:DK x F bv c bo k)(k0:k.be=[])(k1:k.ls=gX [] []++jm [] [])(k2:k.dl=7)(k3:k.qH bv bo=[(mO 200<|.r 213,[(0,0,0),(2,bv,bo+3)]),(mO 220<|.r 213,[(0,0,0),(2,bv,bo+6)]),(nN 2,[(0,0,0),(1,bv,bo),(910,905,1)])])(k4:k.vW bv bo=qr [.i bv bo] []++gX [.r 200] [.i 905 1]++[(46,.seg [.r 220] 2 902 []),(12,.seg [] 4 902 [.i 905 1])]):aD w A (assign kl env<|.int tn2 tok) (λ _ ci=>aD w A (execs body env) Q E ci) E s:=
 jI ρ O L M B hn eZ q hu D k0 (λ Z a b c d e f=>k1▸aA (VE a.symm c.symm e<|a▸c▸L.ls.trans L.X.length) (VF b.symm d.symm f<|b▸d▸L.lq.trans L.Y.length))
  (λ aa=>[El.P ca ch ⟨aa 200,aa 201,aa 202,aa 213,x.l+4,x.N.length+1⟩,El.P ca ch ⟨aa 220,aa 221,aa 222,aa 213,x.l+7,x.N.length+1⟩,Th.P ca ch ⟨aa 210,aa 211,aa 212,aa 213,aa 214,x.l+1,x.N.length+1,2⟩]) (λ aa=>k3▸rfl)
  (λ Z aa h z0 J hb H=>aC (sY (b:=200) (bv:=bv) (off:=bo+3) H (.inl rfl) (k3▸.head _) z0 (by show x.l+4=_;lia) rfl rfl rfl rfl) (aC (sY (b:=220) (bv:=bv) (off:=bo+6) H (.inr rfl) (k3▸.tail _ (.head _)) z0 (by show x.l+7=_;lia) rfl rfl rfl rfl)
   (aC (xI (bv:=bv) (off:=bo) (kv:=905) (ko:=1) H (.inr rfl) (k3▸.tail _ (.tail _<|.head _)) z0 hb.symm (by rw[J,<-L.N.length];rfl) rfl rfl rfl rfl rfl) aZ)))
  λ Z aa h bO a b c d e f g J hb C=>by
   rw[k4]at C;refine a8 (dW<|C (3,.seg [] 5 905 [.i bv bo]) m0) λ u0 r0 e0=>a8 (dW<|C (123,.seg [] 1 901 [.r 200]) m3) λ u3 r3 e3=>a8 (dW<|C (11,.seg [] 3 901 [.i 905 1]) m4) λ u4 r4 e4=>a8 (yu<|C (46,.seg [.r 220] 2 902 []) m5) λ u5 r5 e5=>a8 (dW<|C (12,.seg [] 4 902 [.i 905 1]) m6) λ u6 r6 e6=>?_;have row:∀{e:El}{v:Value},e.k=x.N.length+1->VR Z aa 256 h (.i 905 1) v->kT e v:=λ hk r=>.inr ⟨hk▸Nat.succ_ne_zero _,by have:=rV r;rw[J,<-L.N.length]at this;rw[hk];exact this⟩;exact gZ {S:=x.S++[⟨aa 200,aa 201,aa 202,aa 213,x.l+4,x.N.length+1⟩],Q:=x.Q++[⟨aa 220,aa 221,aa 222,aa 213,x.l+7,x.N.length+1⟩],T:=⟨aa 210,aa 211,aa 212,aa 213,aa 214,x.l+1,x.N.length+1,2⟩::x.T,N:=x.N++[x.l+1],H:=x.H,l:=x.l+7,st:=x.st,tn:=x.tn,m:=⟨true,true,x.m.ts,x.m.tq⟩}
    pm3 ⟨(L.N.app<|.cons (hb▸rV r0) .nil).cg<|e▸e0,(av<|C (7,.seg [] 7 907 []) m1).trans g,L.H.cg<|(av<|C (10,.seg [] 6 906 []) m2).trans f,e3.trans<|f6 (a.trans L.s)<|rU r3,(L.X.app<|.cons (row rfl r4) .nil).cg<|c▸e4,e5.trans<|CP (b.trans L.q)<|rU r5,(L.Y.app<|.cons (row rfl r6) .nil).cg<|d▸e6⟩
    (M.dL _ _ _ rfl rfl rfl rfl rfl rfl rfl rfl rfl) (Int.le_of_eq<|k2▸rfl) ⟨AS B.S,AS B.Q,AS B.N,de B.H⟩
theorem uQ{k:Kd}{a:Int}{f:Nat->Addr}{e:El}{xs ys}{rest}(hu:u.emod 5=k.way)(D:DK x F bv c bo k)(hm:e∈x.S++x.Q)(h1:20<a)(h2:a<e.num)(hk:0<=kk/\kk<=5000)(sS:S.Sublist x.S)(sQ:Q'.Sublist x.Q)(fX:F2 kT S xs)(fY:F2 kT Q' ys)(pe:(mW ca ch x).Perm<|Es++rest)(uE:∀Z:Sy,Z.τ 1=pc S->Z.τ 2=(pc Q').reverse->Z.τ 3=xs->Z.τ 4=ys->Z.σ 901=(Z.τ 1).length->Z.σ 902=(Z.τ 2).length->Z.σ 910=kk->∀q∈k.ls,qI Z (rv G f) 256 s.heap q.2<|V q.1)(he:∀σ τ,σ 0=0->σ 2=e.num->σ 1=a->σ 910=kk->(∀P∈Es,P.Ok w s.heap)->(∀q∈k.be,q.1<256/\OR (bD σ τ ca ch) w (rv G f) 256 s.heap (rv G f q.1) q.2)/\k.be.map (λ q=>rv G f q.1)=dj Es)(oK:(Nat->Addr)->List io)(FW:∀aa,dj (oK aa)=((k.qH bv bo).flatMap λ e=>e.1.map (·.1)).map aa)(FV:∀(Z:Sy) aa h,Z.σ 0=0->Z.σ 1=a->Z.σ 910=kk->Z.σ bv+bo=x.l+1->nK ca ch w Z.σ (k.qH bv bo) aa h->∀P∈oK aa,BO w h P)(fin:∀(Z:Sy) aa h J,Z.τ 1=pc S->Z.τ 2=(pc Q').reverse->Z.τ 3=xs->Z.τ 4=ys->Z.τ 5=V 3->Z.τ 6=V 10->Z.τ 7=us->Z.σ 1=a->Z.σ 910=kk->(k.keeps=true->∀i∈ux,aa i=f i)->(∀q∈k.vW bv bo,l_ Z aa 256 h q.2<|J q.1)->∃y:Ws,(oK aa++rest).Perm (mW ca ch y)/\LV y us J/\Ma y/\y.l<=x.l+k.dl/\Sz y (n+1)):
  aD w A (assign kl env<|.int tn2 tok) (λ _ ci=>aD w A (execs body env) Q E ci) E s:=
 have lS:(pc S).length=S.length:=List.length_map _;have lQ:(pc Q').reverse.length=Q'.length:=List.length_reverse.trans (List.length_map _)
 uR (f:=f) (a:=a) (b:=e.num) (kk:=kk) (sv:=pc S) (xs:=xs) (qv:=(pc Q').reverse) (ys:=ys) (Es:=Es) (rest:=rest) ρ O L M B hn eZ q hu D h1 h2 (M.num e hm).2 hk ⟨lS▸ae sS.length_le (ae B.S B.b),lQ▸ae sQ.length_le (ae B.Q B.b)⟩ (lS.trans fX.length) (lQ.trans fY.length) pe
  (uE _ rfl rfl rfl rfl rfl rfl rfl) (he _ _ rfl rfl rfl rfl) oK FW (λ aa h=>FV _ aa h rfl rfl rfl) λ aa h J kp _=>fin _ aa h J rfl rfl rfl rfl rfl rfl rfl rfl rfl kp
theorem Sv{e:El}(hu:u.emod 5=2)(D:DK x F bv c bo .sN)(J:x.S=S++[e])(ZG:e.k=0):aD w A (assign kl env<|.int tn2 tok) (λ _ ci=>aD w A (execs body env) Q E ci) E s:=
 have hm:e∈x.S++x.Q:=aU (J▸aF m0)
 a5 (F2.snoc_inv (J▸L.X:F2 kT (S++[e])<|V 11)) λ xs v hS fX Xk=>
 have v0:v=.none:=Xk.elim (·.2) λ z=>absurd ZG z.1
 uQ (k:=.sN) (f:=e.G) (a:=e.num-1) (kk:=0) (S:=S) (Q':=x.Q) (xs:=xs) (ys:=V 12) (Es:=[El.P ca ch e]) (rest:=(S++x.Q).map (El.P ca ch)++x.T.map (Th.P ca ch)) ρ O L M B hn eZ q hu D hm (Int.lt_of_lt_of_le (by decide)<|Int.le_sub_one_of_lt (M.num e hm).1) (Int.sub_lt_self _ (by decide)) (by decide) (J▸List.sublist_append_left _ _) (.refl _) fX L.Y (by unfold mW;rw[J];exact VL.symm)
  (λ Z a b c d e' f _=>aA (Pl (.r 200 (by decide)) VR.none (a▸L.s.trans (J▸(f6 rfl rfl).symm)) (c▸v0▸hS) e'<|a▸c▸(List.length_map _).trans fX.length)<|VF (L.q.trans b.symm) d.symm f<|b▸d▸L.q▸L.lq.trans L.Y.length)
  (λ σ τ z0 z2 _ _ ok=>by have h:=zL (σ:=σ) (τ:=τ) (ρV:=rv G e.G) e (ok _<|.head _) z0 z2<|aC rfl<|aC rfl<|aC rfl<|aC rfl aZ;rw[El.qy ZG]at h;exact⟨h.1,h.2.trans (List.append_nil _).symm⟩) (λ _=>[]) (λ _=>rfl) (λ _ _ _ _ _ _ _ _=>aZ)
  λ Z aa h bO a b c d e f g _ _ _ C=>gZ {x with S:=S} (.refl _) ⟨L.N.cg<|(av<|C (3,.seg [] 5 905 []) m0).trans e,(av<|C (7,.seg [] 7 907 []) m1).trans g,L.H.cg<|(av<|C (10,.seg [] 6 906 []) m2).trans f,(av<|C (123,.seg [] 1 901 []) m3).trans a,fX.cg<|(av<|C (11,.seg [] 3 901 []) m4).trans c,(av<|C (46,.seg [] 2 902 []) m5).trans b,L.Y.cg<|(av<|C (12,.seg [] 4 902 []) m6).trans d⟩ (M.Xo J ZG) (yd (Int.le_refl _) (by decide))
   ⟨ae (List.Sublist.length_le<|J▸List.sublist_append_left _ _)<|de B.S,B.sz.2⟩
section
variable{k:Kd}{e:El}{t:Th}{T:List Th}{xs ys:List Value}(hu:u.emod 5=k.way)(D:DK x F bv c bo k)(p:(x.S++x.Q).Perm (e::(S++Q')))(sS:S.Sublist x.S)(sQ:Q'.Sublist x.Q)(hT:x.T=t::T)(tU:t.k=e.k)(hr:t.r=e.r)(A9:t.num<e.num)(ek:e.k≠0)(fX:F2 kT S xs)(fY:F2 kT Q' ys)(pe:([El.P ca ch e,Th.P ca ch t]++((S++Q').map (El.P ca ch)++T.map (Th.P ca ch))).Perm<|mW ca ch x)(uE:∀Z:Sy,Z.τ 1=pc S->Z.τ 2=(pc Q').reverse->Z.τ 3=xs->Z.τ 4=ys->Z.σ 901=(Z.τ 1).length->Z.σ 902=(Z.τ 2).length->Z.σ 910=t.k->∀q∈k.ls,qI Z (rv G<|et e t) 256 s.heap q.2<|V q.1)
include hu D p sS sQ hT hr A9 ek fX fY pe uE
theorem rY(k0:k.be=mO 200 (.r 213)++nN t.n)(oK:(Nat->Addr)->List io)(FW:∀aa,dj (oK aa)=((k.qH bv bo).flatMap λ e=>e.1.map (·.1)).map aa)(FV:∀(Z:Sy) aa h,Z.σ 0=0->t.num=Z.σ 1+0->t.k=Z.σ 910+0->Z.σ bv+bo=x.l+1->nK ca ch w Z.σ (k.qH bv bo) aa h->∀P∈oK aa,BO w h P)(fin:∀(Z:Sy) aa h bO,Z.τ 1=pc S->Z.τ 2=(pc Q').reverse->Z.τ 3=xs->Z.τ 4=ys->Z.τ 5=V 3->Z.τ 6=V 10->Z.τ 7=us->Z.σ 1+0=t.num->Z.σ 910+0=t.k->(k.keeps=true->∀i∈ux,aa i=et e t i)->(∀q∈k.vW bv bo,l_ Z aa 256 h q.2<|bO q.1)->∃y:Ws,(oK aa++((S++Q').map (El.P ca ch)++T.map (Th.P ca ch))).Perm (mW ca ch y)/\LV y us bO/\Ma y/\y.l<=x.l+k.dl/\Sz y (n+1)):
  aD w A (assign kl env<|.int tn2 tok) (λ _ ci=>aD w A (execs body env) Q E ci) E s:=
 have tm:=M.th t (hT▸.head _)
 uQ (f:=et e t) (a:=t.num) (kk:=t.k) (Es:=[El.P ca ch e,Th.P ca ch t]) ρ O L M B hn eZ q hu D (p.mem_iff.mpr<|.head _) (Int.lt_trans (by decide) tm.1) A9 (Lw<|ae (M.IX t<|hT▸.head _)<|ae B.N<|ae B.b (by decide)) sS sQ fX fY pe.symm uE
  (λ σ τ z0 z2 J z9 ok=>k0▸CV ek tm.2.2.2.2 hr z0 z2 J z9 ok) oK FW (λ Z aa h z0 J z9=>FV Z aa h z0 (J▸(Int.add_zero _).symm)<|z9▸(Int.add_zero _).symm) λ Z aa h bO a b c d e f g J z9=>fin Z aa h bO a b c d e f g ((Int.add_zero _).trans J)<|(Int.add_zero _).trans z9
include tU
theorem GR(h1:t.n=1)(k0:k.be=mO 200 (.r 213)++nN 1)(k3:k.qH bv bo=[])(k4:k.vW bv bo=qr [] [.i 1 0]++gX [] []++jm [] []):aD w A (assign kl env<|.int tn2 tok) (λ _ ci=>aD w A (execs body env) Q E ci) E s:=
 rY ρ O L M B hn eZ q hu D p sS sQ hT hr A9 ek fX fY pe uE (h1▸k0) (λ _=>[]) (λ _=>k3▸rfl) (λ _ _ _ _ _ _ _ _=>aZ) λ Z aa h bO a b c d e f g z1 _ _ C=>by
  rw[k4]at C;exact a8 (dW<|C (10,.seg [] 6 906 [.i 1 0]) m2) λ u r J=>gZ {x with S:=S,Q:=Q',T:=T,H:=x.H++[t.num]} (.refl _) ⟨L.N.cg<|(av<|C (3,.seg [] 5 905 []) m0).trans e,(av<|C (7,.seg [] 7 907 []) m1).trans g,(L.H.app<|.cons (z1▸rV r) .nil).cg<|f▸J,(av<|C (123,.seg [] 1 901 []) m3).trans a,fX.cg<|(av<|C (11,.seg [] 3 901 []) m4).trans c,(av<|C (46,.seg [] 2 902 []) m5).trans b,fY.cg<|(av<|C (12,.seg [] 4 902 []) m6).trans d⟩
   (M.GR p sS sQ hT tU h1) (yd (Int.le_refl _) (Y5 k).1) ⟨ae sS.length_le B.sz.1,ae sQ.length_le B.sz.2.1,B.sz.2.2.1,AS B.H⟩
theorem GQ(h2:t.n=2)(kk:k.keeps=true)(k0:k.be=mO 200 (.r 213)++nN 2)(k3:k.qH bv bo=[(nN 1,[(0,0,0),(1,1,0),(910,910,0)])])(J:k.vW bv bo=qr [] []++gX [] []++jm [] []):aD w A (assign kl env<|.int tn2 tok) (λ _ ci=>aD w A (execs body env) Q E ci) E s:=
 rY ρ O L M B hn eZ q hu D p sS sQ hT hr A9 ek fX fY pe uE (h2▸k0) (λ aa=>[Th.P ca ch ⟨aa 210,aa 211,aa 212,aa 213,aa 214,t.num,t.k,1⟩]) (λ _=>k3▸rfl) (λ Z aa h z0 z1 z9 _ H=>aC (xI (bv:=1) (off:=0) (kv:=910) (ko:=0) H (.inl rfl) (k3▸.head _) z0 z1 z9 rfl rfl rfl rfl rfl) aZ) λ Z aa h bO a b c d e f g _ _ kp C=>by
  rw[J]at C;exact gZ {x with S:=S,Q:=Q',T:=⟨aa 210,aa 211,aa 212,aa 213,aa 214,t.num,t.k,1⟩::T} pm1 ⟨L.N.cg<|(av<|C (3,.seg [] 5 905 []) m0).trans e,(av<|C (7,.seg [] 7 907 []) m1).trans g,L.H.cg<|(av<|C (10,.seg [] 6 906 []) m2).trans f,(av<|C (123,.seg [] 1 901 []) m3).trans a,fX.cg<|(av<|C (11,.seg [] 3 901 []) m4).trans c,(av<|C (46,.seg [] 2 902 []) m5).trans b,fY.cg<|(av<|C (12,.seg [] 4 902 []) m6).trans d⟩
   (M.GQ p sS sQ hT tU h2 rfl (kp kk 213 m3) rfl rfl) (yd (Int.le_refl _) (Y5 k).1) ⟨ae sS.length_le B.sz.1,ae sQ.length_le B.sz.2.1,B.sz.2.2⟩
end
section
variable{k:Kd}{e:El}{t:Th}{T:List Th}(hu:u.emod 5=k.way)(D:DK x F bv c bo k)(hT:x.T=t::T)(tU:t.k=e.k)(hr:t.r=e.r)(A9:t.num<e.num)(ek:e.k≠0)
include hu D hT tU hr A9 ek
theorem Sx(hk:k=.s1/\t.n=1\/k=.s2/\t.n=2)(J:x.S=S++[e]):aD w A (assign kl env<|.int tn2 tok) (λ _ ci=>aD w A (execs body env) Q E ci) E s:=
 a5 (F2.snoc_inv (J▸L.X:F2 kT (S++[e])<|V 11)) λ xs v hS fX Xk=>xE (Py Xk ek) λ tv v0=>
 have uE:∀Z:Sy,Z.τ 1=pc S->Z.τ 2=(pc x.Q).reverse->Z.τ 3=xs->Z.τ 4=V 12->Z.σ 901=(Z.τ 1).length->Z.σ 902=(Z.τ 2).length->Z.σ 910=t.k->∀q∈gX [.r 200] [.i 910 0]++jm [] [],qI Z (rv G<|et e t) 256 s.heap q.2 (V q.1):=λ Z a b c d e' f g=>
  aA (Pl (.r 200 (by decide)) (yR (t:=tv) (i:=e.k) (by rw[g,tU];exact Int.add_zero _)) (a▸L.s.trans (J▸(f6 rfl rfl).symm)) (c▸v0▸hS) e'<|a▸c▸(List.length_map _).trans fX.length) (VF (L.q.trans b.symm) d.symm f<|b▸d▸L.q▸L.lq.trans L.Y.length)
 have p:(x.S++x.Q).Perm (e::(S++x.Q)):=by rw[J,List.append_assoc];exact List.perm_middle
 have pe:([El.P ca ch e,Th.P ca ch t]++((S++x.Q).map (El.P ca ch)++T.map (Th.P ca ch))).Perm (mW ca ch x):=by unfold mW;rw[J,hT];exact L_
 have sS:S.Sublist x.S:=J▸List.sublist_append_left _ _
 hk.elim (λ z=>GR ρ O L M B hn eZ q hu D p sS (.refl _) hT tU hr A9 ek fX L.Y pe (z.1▸uE) z.2 (z.1▸rfl) (z.1▸rfl)<|z.1▸rfl) λ z=>GQ ρ O L M B hn eZ q hu D p sS (.refl _) hT tU hr A9 ek fX L.Y pe (z.1▸uE) z.2 (z.1▸rfl) (z.1▸rfl) (z.1▸rfl)<|z.1▸rfl
section
variable(hQ:x.Q=e::Q')
omit ρ O M B hn eZ q hu D hT tU hr A9 in
include hQ ek in
theorem CQ:∃ys J,V 12=.int e.k J::ys/\F2 kT Q' ys:=by
 have h:=L.Y;rw[hQ]at h;generalize V 12=v at h;cases h with|cons r t=>exact xE (Py r ek) λ J e=>⟨_,J,e▸rfl,t⟩
omit ρ O M B hn eZ q hu D hT hr A9 ek in
include hQ tU in
theorem Pz{ys}{J:Tok}(Pc:V 12=.int e.k J::ys)(fY:F2 kT Q' ys):∀Z:Sy,Z.τ 1=pc x.S->Z.τ 2=(pc Q').reverse->Z.τ 3=V 11->Z.τ 4=ys->Z.σ 901=(Z.τ 1).length->Z.σ 902=(Z.τ 2).length->Z.σ 910=t.k->∀q∈gX [] []++jm [.r 200] [.i 910 0],qI Z (rv G<|et e t) 256 s.heap q.2 (V q.1):=λ Z a b c d e' f g=>
 aA (VE (L.s.trans a.symm) c.symm e'<|a▸c▸L.s▸L.ls.trans L.X.length) (Xe (.r 200 (by decide)) (yR (t:=J) (i:=e.k) (by rw[g,tU];exact Int.add_zero _)) (b▸L.q.trans (hQ▸List.reverse_cons)) (d▸Pc) f<|b▸d▸List.length_reverse.trans ((List.length_map _).trans fY.length))
include hQ
theorem SD(hk:k=.q1/\t.n=1\/k=.q2/\t.n=2):aD w A (assign kl env<|.int tn2 tok) (λ _ ci=>aD w A (execs body env) Q E ci) E s:=
 b8 (CQ L ek hQ) λ ys tv Pc J=>
 have uE:=Pz (G:=G) (s:=s) L tU hQ Pc J;have p:(x.S++x.Q).Perm (e::(x.S++Q')):=hQ▸List.perm_middle;have pe:([El.P ca ch e,Th.P ca ch t]++((x.S++Q').map (El.P ca ch)++T.map (Th.P ca ch))).Perm (mW ca ch x):=by unfold mW;rw[hQ,hT];exact Qd
 have sQ:Q'.Sublist x.Q:=hQ▸List.sublist_cons_self _ _
 hk.elim (λ z=>GR ρ O L M B hn eZ q hu D p (.refl _) sQ hT tU hr A9 ek L.X J pe (z.1▸uE) z.2 (z.1▸rfl) (z.1▸rfl)<|z.1▸rfl) λ z=>GQ ρ O L M B hn eZ q hu D p (.refl _) sQ hT tU hr A9 ek L.X J pe (z.1▸uE) z.2 (z.1▸rfl) (z.1▸rfl) (z.1▸rfl)<|z.1▸rfl
theorem SF(kk:k.keeps=true)(k5:k.dl=5)(k0:k.be=mO 200 (.r 213)++nN t.n)(k1:k.ls=gX [] []++jm [.r 200] [.i 910 0])(k3:k.qH bv bo=[(mO 200<|.r 213,[(0,0,0),(2,bv,bo+4)]),(nN t.n,[(0,0,0),(1,1,0),(910,910,0)])])(k4:k.vW bv bo=qr [] []++gX [.r 200] [.i 910 0]++jm [] []):aD w A (assign kl env<|.int tn2 tok) (λ _ ci=>aD w A (execs body env) Q E ci) E s:=
 b8 (CQ L ek hQ) λ ys tv Pc J=>
 have p:(x.S++x.Q).Perm (e::(x.S++Q')):=hQ▸List.perm_middle;have pe:([El.P ca ch e,Th.P ca ch t]++((x.S++Q').map (El.P ca ch)++T.map (Th.P ca ch))).Perm (mW ca ch x):=by unfold mW;rw[hQ,hT];exact Qd
 have sQ:Q'.Sublist x.Q:=hQ▸List.sublist_cons_self _ _
 rY ρ O L M B hn eZ q hu D p (.refl _) sQ hT hr A9 ek L.X J pe (k1▸Pz (G:=G) (s:=s) L tU hQ Pc J) k0 (λ aa=>[El.P ca ch ⟨aa 200,aa 201,aa 202,aa 213,x.l+5,e.k⟩,Th.P ca ch ⟨aa 210,aa 211,aa 212,aa 213,aa 214,t.num,t.k,t.n⟩]) (λ _=>k3▸rfl)
  (λ Z aa h z0 z1 z9 hb H=>aC (sY (b:=200) (bv:=bv) (off:=bo+4) H (.inl rfl) (El.WZ (e:=⟨aa 200,aa 201,aa 202,aa 213,x.l+5,e.k⟩) ek▸k3▸.head _) z0 (by show x.l+5=_;lia) rfl rfl rfl rfl)<|aC (xI (bv:=1) (off:=0) (kv:=910) (ko:=0) H (M.th t<|hT▸.head _).2.2.2.2 (k3▸.tail _ (.head _)) z0 z1 z9 rfl rfl rfl rfl rfl) aZ) λ Z aa h bO a b c d e1 f g _ z9 kp C=>by
  have kp:=kp kk;have te:(⟨aa 210,aa 211,aa 212,aa 213,aa 214,t.num,t.k,t.n⟩:Th)=t:=by rw[kp 210 m0,kp 211 m1,kp 212 m2,kp 213 m3,kp 214 m4];rfl
  rw[k4]at C;rw[te];exact a8 (dW<|C (123,.seg [] 1 901 [.r 200]) m3) λ u3 r3 e3=>a8 (dW<|C (11,.seg [] 3 901 [.i 910 0]) m4) λ u4 r4 e4=>
   gZ {x with S:=x.S++[⟨aa 200,aa 201,aa 202,aa 213,x.l+5,e.k⟩],Q:=Q',l:=x.l+5} (by unfold mW;dsimp only;rw[hT];exact L_) ⟨L.N.cg<|(av<|C (3,.seg [] 5 905 []) m0).trans e1,(av<|C (7,.seg [] 7 907 []) m1).trans g,L.H.cg<|(av<|C (10,.seg [] 6 906 []) m2).trans f,e3.trans<|f6 a<|rU r3,(L.X.app<|.cons (show kT ⟨aa 200,aa 201,aa 202,aa 213,x.l+5,e.k⟩ u4 from .inr ⟨ek,by have:=rV r4;rw[z9,tU]at this;exact this⟩) .nil).cg<|c▸e4,(av<|C (46,.seg [] 2 902 []) m5).trans b,J.cg<|(av<|C (12,.seg [] 4 902 []) m6).trans d⟩
    (M.mv hQ rfl rfl<|(kp 213 m3).trans hr) (Int.le_of_eq<|k5▸rfl) ⟨AS B.S,ae sQ.length_le B.sz.2.1,B.sz.2.2⟩
end
end
end
section
variable{ca:Nat->Obj}{ch:Nat->Nat->FuncData->Prop}{w:World}{G:Nat->Addr}{s:Shared}{F:List<|Nat×AO}{b:Nat}{u:Int}{x:Ws}{tok:Tok}{Q:Flow->Shared->Prop}{E:Value->Shared->Prop}
theorem Ma.E1(M:Ma x){e:El}(he:e∈x.S++x.Q)(h0:e.k≠0):∃t T,x.T.Perm (t::T)/\t.k=e.k/\t.r=e.r/\t.num<e.num/\(t.n=1\/t.n=2):=
 du (M.has e he h0) λ t B a b d=>j_ (List.append_of_mem B) λ J O hT=>jQ t (J++O) (hT▸List.perm_middle) a b d (M.th t B).2.2.2.2
theorem HL(ρ:Given ca ch A env sc G F bv c j bo x.l kl body)(α:Inv ca ch w s.heap F c G x (us++[.int u tu]) Rs)(M:Ma x)(B:Bd x b)(hb:b<100)(eZ:us.length<=100)(D:∀k:Kd,(k.fst=true\/x.S≠[]\/x.Q≠[])->gK (XW k) k bv bo c (k.view F (x.m.T c) x.m.K)=some ((k.mem x.m).T c,(k.mem x.m).K))(q:∀aa x' s',Sm s s'->aa 0=G 0->aa 1=G 1->Inv ca ch w s'.heap (cx c) c aa x' us Rs->Ma x'->Bd x' (b+1)->Q .next s'):
  aD w A (assign kl env<|.int tn2 tok) (λ _ ci=>aD w A (execs body env) Q E ci) E s:=by
 have m0:0<=u.emod 5:=Int.emod_nonneg _ (by decide);have m5:u.emod 5<5:=Int.emod_lt_of_pos _ (by decide);have xk:u.emod 5=0\/u.emod 5=1\/u.emod 5=2\/u.emod 5=3\/u.emod 5=4:=by lia
 refine a8 α.own λ V O L=>xk.elim (λ h=>Ek (k:=.dL) ρ O L M B hb eZ q h (D _<|.inl rfl) rfl rfl rfl rfl rfl) λ xk=>xk.elim (λ h=>Ek (k:=.pu) ρ O L M B hb eZ q h (D _<|.inl rfl) rfl rfl rfl rfl rfl) λ xk=>xk.elim (λ h=>?_) λ xk=>xk.elim (λ h=>?_) λ h=>?_
 .refine(List.eq_nil_or_concat x.S).elim (Sw ρ O L M B hb eZ q h<|D _<|.inl rfl) λ z=>j_ z λ S e hS=>?_;have hS:x.S=S++[e]:=hS.trans List.concat_eq_append;have ne:x.S≠[]:=λ z=>List.append_ne_nil_of_right_ne_nil S (List.cons_ne_nil e [])<|hS.symm.trans z;refine dite (e.k=0) (Sv ρ O L M B hb eZ q h (D .sN<|.inr<|.inl ne) hS) λ h0=>?_;refine la (M.E1 (aU (hS▸aF fH.m0):e∈x.S++x.Q) h0) λ t T p a1 a2 a3 n=>a8 (α.ke p).own λ V O L=>?_;have B':Bd {x with T:=t::T} b:=⟨B.S,B.Q,B.N,B.H,B.l,B.st,B.b⟩;exact n.elim (λ n=>Sx (k:=.s1) (x:={x with T:=t::T}) ρ O L (M.ke p) B' hb eZ q h (D _<|.inr<|.inl ne) rfl a1 a2 a3 h0 (.inl ⟨rfl,n⟩) hS) λ n=>Sx (k:=.s2) (x:={x with T:=t::T}) ρ O L (M.ke p) B' hb eZ q h (D _<|.inr<|.inl ne) rfl a1 a2 a3 h0 (.inr ⟨rfl,n⟩) hS
 .cases J:x.Q with|nil=>exact SA ρ O L M B hb eZ q h (D _<|.inl rfl) J|cons e Q'=>
   have ne:x.Q≠[]:=J▸List.cons_ne_nil _ _;have h0:=M.qk e<|J▸.head _;refine la (M.E1 (aF<|J▸.head _) h0) λ t T p a1 a2 a3 n=>a8 (α.ke p).own λ V O L=>?_;have B':Bd {x with T:=t::T} b:=⟨B.S,B.Q,B.N,B.H,B.l,B.st,B.b⟩;exact n.elim (λ n=>SD (k:=.q1) (x:={x with T:=t::T}) ρ O L (M.ke p) B' hb eZ q h (D _<|.inr<|.inr ne) rfl a1 a2 a3 h0 J<|.inl ⟨rfl,n⟩) λ n=>SD (k:=.q2) (x:={x with T:=t::T}) ρ O L (M.ke p) B' hb eZ q h (D _<|.inr<|.inr ne) rfl a1 a2 a3 h0 J (.inr ⟨rfl,n⟩)
 .cases J:x.Q with|nil=>exact SE ρ O L M B hb eZ q h (D _<|.inl rfl) J|cons e Q'=>
   have ne:x.Q≠[]:=J▸List.cons_ne_nil _ _;have h0:=M.qk e<|J▸.head _;refine la (M.E1 (aF<|J▸.head _) h0) λ t T p a1 a2 a3 n=>a8 (α.ke p).own λ V O L=>?_;have B':Bd {x with T:=t::T} b:=⟨B.S,B.Q,B.N,B.H,B.l,B.st,B.b⟩;exact n.elim (λ n=>SF (k:=.m1) (x:={x with T:=t::T}) ρ O L (M.ke p) B' hb eZ q h (D _<|.inr<|.inr ne) rfl a1 a2 a3 h0 J rfl rfl (by rw[n];rfl) rfl (by rw[n];rfl) rfl) λ n=>SF (k:=.m2) (x:={x with T:=t::T}) ρ O L (M.ke p) B' hb eZ q h (D _<|.inr<|.inr ne) rfl a1 a2 a3 h0 J rfl rfl (by rw[n];rfl) rfl (by rw[n];rfl) rfl
end
theorem fR{a:I}{f:I->Option β}:bd (some a) f=f a:=rfl
theorem cz{a:I}{f:I->St->Option β}:bF (some (a,st)) f=f a st:=rfl
section
variable{x y:Option β}{r:Option β}{b:Bool}
theorem bE{x:Option I}{a:I}{f:I->Option β}(h:x=some a)(k:f a=r):bd x f=r:=(congrArg (bd · f) h).trans k
theorem d8{x:Option<|I×St}{a:I}{f:I->St->Option β}(h:x=some (a,st))(k:f a st=r):bF x f=r:=(congrArg (bF · f) h).trans k
theorem r7(h:b=true)(k:x=r):cj b x=r:=(congrArg (cj · x) h).trans k
theorem xg{v:β}(h:x=some v):pt x y=some v:=congrArg (pt · y) h
theorem U8(h:x=none)(k:y=r):pt x y=r:=(congrArg (pt · y) h).trans k
end
section
variable{X:Env}{m L x:Nat}{cs:Cs}{a b:AV}{l r:IE}{cr:AV×St}
theorem eI(h1:st.T.get L=some (.ns es)):nU st L=some es:=bE h1 rfl
theorem cP{T:TR AO}(h:T.get j=some (.list xs)):dE T j=some xs:=bE h rfl
theorem gF(h1:st.T.get L=some (.ns es))(h2:lk x es=some v):(ev X<|m+1).E L cs (.l x) st=some (v,st):=bE (eI h1)<|bE h2 rfl
theorem jl(h1:lk x cs=some c)(h2:st.T.get c=some (.cell<|some v)):(ev X<|m+1).E L cs (.b9 x) st=some (v,st):=bE h1<|bE h2 rfl
theorem FE(h1:(ev X m).E L cs l st=some (a,ac))(h2:(ev X m).E L cs r ac=some (b,af))(B:NI X op a b af=some cr):(ev X<|m+1).E L cs (.bin op l r) st=some cr:=(d8 h1 (d8 h2 B):MW X (ev X m) L cs op l r st=_)
theorem ki(h1:(ev X m).E L cs l st=some (a,ac))(h2:(ev X m).E L cs r ac=some (b,af))(B:yg X a b af=some v):(ev X<|m+1).E L cs (.sub l r) st=some (v,af):=(d8 h1 (d8 h2<|bE B rfl):MT X (ev X m) L cs l r st=_)
theorem dZ{op}{y:Bool}(h1:(ev X m).E L cs l st=some (a,ac))(h2:(ev X m).E L cs r ac=some (b,af))(B:Im X op a b af=some y):(ev X<|m+1).E L cs (.cmp op l r) st=some (.b y,af):=(d8 h1 (d8 h2<|bE B rfl):MV X (ev X m) L cs op l r st=_)
end
noncomputable def p_:IE:=.cmp .fQ (.bin .add (.l 323)<|.c<|.i 0 1)<|.bin .add (.sub (.b9 122)<|.c<|.i 0 0)<|.sub (.b9 122)<|.c<|.i 0 1
noncomputable def zq:IE:=.sub (.b9 316)<|.l 323
structure Cm(L c1 c2 jr j0 j1 jn:Nat)(cs:Cs)(xs ys ns:List AV)(st:St):Prop where
 h1:lk 122 cs=some c1
 h2:lk 316 cs=some c2
 t1:st.T.get c1=some (.cell<|some<|.r jr)
 t2:st.T.get c2=some (.cell<|some<|.r jn)
 tr:st.T.get jr=some (.list [.r j0,.r j1])
 ta:st.T.get j0=some (.list xs)
 tb:st.T.get j1=some (.list ys)
 tn:st.T.get jn=some (.list ns)
 tL:∃es,st.T.get L=some (.ns es)
 lt:∀i∈[c1,c2,jr,j0,j1,jn],i<st.nx/\i≠L
 ll:L<st.nx
structure Ke(L:Nat)(st ab:St):Prop where
 nx:st.nx<=ab.nx
 get:∀i,i<st.nx->i≠L->ab.T.get i=st.T.get i
 lt:(∀i o,st.T.get i=some o->i<st.nx)->∀i o,ab.T.get i=some o->i<ab.nx
theorem mC(h:∀i o,st.T.get i=some o->i<st.nx)(o:AO):∀i x,(a_ o st).T.get i=some x->i<(a_ o st).nx:=λ i x e=>by
 have e:(st.T.dL o st.nx).get i=some x:=e;rw[TR.bu]at e;by_cases q:i=st.nx
 .rw[q];exact bZ _
 .rw[if_neg q]at e;exact fh<|h i x e
theorem kE{L:Nat}(h:∀i o,st.T.get i=some o->i<st.nx)(B:L<st.nx)(o:AO):∀i x,(im L o st).T.get i=some x->i<(im L o st).nx:=λ i x e=>by
 have e:(st.T.dL o L).get i=some x:=e;rw[TR.bu]at e;by_cases q:i=L
 .rw[q];exact B
 .rw[if_neg q]at e;exact h i x e
variable{jr j0 j1 jn:Nat}
section
variable{X:Env}{L:Nat}{cs:Cs}{ns:List AV}
theorem Ke.refl:Ke L st st:=⟨a9 _,λ _ _ _=>rfl,λ h=>h⟩
theorem Ke.trans(a:Ke L st ab)(b:Ke L ab qK):Ke L st qK:=⟨ae a.nx b.nx,λ i h1 h2=>(b.get i (ba h1 a.nx) h2).trans<|a.get i h1 h2,λ h=>b.lt<|a.lt h⟩
theorem Ke.a_(o:AO):Ke L st (a_ o st):=⟨bW _,λ i h1 _=>by
 show(st.T.dL o st.nx).get i=_;rw[TR.bu,if_neg<|Nat.ne_of_lt h1],λ h=>mC h o⟩
theorem Ke.im(B:L<st.nx)(o:AO):Ke L st (im L o st):=⟨a9 _,λ i _ h2=>by
 show(st.T.dL o L).get i=_;rw[TR.bu,if_neg h2],λ h=>kE h B o⟩
theorem Cm.keep(C:Cm L c1 c2 jr j0 j1 jn cs xs ys ns st)(K:Ke L st ab)(tL:∃es,ab.T.get L=some (.ns es)):Cm L c1 c2 jr j0 j1 jn cs xs ys ns ab:=by
 have g:∀i∈[c1,c2,jr,j0,j1,jn],ab.T.get i=st.T.get i:=λ i hi=>K.get i (C.lt i hi).1 (C.lt i hi).2;exact⟨C.h1,C.h2,(g _ m0).trans C.t1,(g _ m1).trans C.t2,(g _ m2).trans C.tr,(g _ m3).trans C.ta,(g _ m4).trans C.tb,(g _ m5).trans C.tn,tL,λ i hi=>⟨ba (C.lt i hi).1 K.nx,(C.lt i hi).2⟩,ba C.ll K.nx⟩
theorem jR{k:Nat}{l:List AV}(h:st.T.get j=some (.list l))(B:l[k]?=some v)(hl:l.length<20000):yg X (.r j) (.i 0 (k:Nat)) st=some v:=by
 have lt:=(List.getElem?_eq_some_iff.mp B).1;have i:mH l (.i 0<|Int.ofNat k)=some k:=r7 (py k (len l)▸db l▸decide_eq_true lt)<|r7 (py k 20000▸decide_eq_true (dN lt hl)) rfl;exact bE h<|xg<|bE (a:=l) rfl<|bE i<|(kC l k).trans B
theorem Nu{m k:Nat}{y:Bool}(C:Cm L c1 c2 jr j0 j1 jn cs xs ys ns st)(B:st.T.get L=some (.ns es))(J:lk 323 es=some (.i 0 (k:Nat)))(hl:xs.length+ys.length<=4000)(O:isIn X (.i 0 (k+1:Nat)) (xs++ys)=some y):
  (ev X<|m+5).E L cs p_ st=some (.b<|!y,a_ (.list<|xs++ys) st):=by
 refine dZ (m:=m+4) (FE (m:=m+3) (gF B J) rfl rfl) (FE (m:=m+3) (ki (m:=m+2) (jl C.h1 C.t1) rfl<|jR (k:=0) C.tr rfl (by simp)) (ki (m:=m+2) (jl C.h1 C.t1) rfl<|jR (k:=1) C.tr rfl (by simp)) (cr:=(.r st.nx,a_ (.list<|xs++ys) st)) ?_) ?_
 .exact xg (bE (cP C.ta)<|bE (cP C.tb)<|r7 (db xs▸db ys▸Nat.ble_eq.mpr hl)<|congrArg (λ l=>new (.list l) st)<|hG xs ys)
 .exact bE (show G_ X (.i 0<|k+1) (.r st.nx) (a_ (.list<|xs++ys) st)=some y from bE ((TR.bu _ st.T st.nx st.nx).trans<|if_pos rfl) (xg O)) rfl
theorem Vn{m n:Nat}{e}{t}:(ev X<|m+1).K L cs e t ifs (.mr n n) st=some ([],st):=by
 have:kw st.T (.mr n n)=some none:=by
  unfold kw;dsimp only;rw[py,decide_eq_false<|Nat.lt_irrefl _]
 exact bE this rfl
theorem Jo{n:Nat}{y:Nat->Bool}(O:ns.length=n)(hn:n<1000)(hl:xs.length+ys.length<=4000)(hy:∀k,k<n->isIn X (.i 0 (k+1:Nat)) (xs++ys)=some (y k)):∀(d k g:Nat)(st:St),k+d=n->d<=g->Cm L c1 c2 jr j0 j1 jn cs xs ys ns st->
  ∃ab,(ev X<|g+8).K L cs zq (.l 323) [p_] (.mr k n) st=some (((List.range' k d).filter λ i=> !y i).map λ i=>ns.getD i .none,ab)/\Ke L st ab/\∃es,ab.T.get L=some (.ns es)
 |0,k,g,st,B,hg,C=>by
  clear O hn hy;obtain rfl:k=n:=B;exact(cC st Vn Ke.refl C.tL)
 |d+1,k,0,st,B,hg,C=>absurd hg (kR d)|d+1,k,g+1,st,B,hg,C=>by
  have lt:k<n:=Nat.lt_of_lt_of_eq (Nat.lt_add_of_pos_right<|d5 d) B;refine xE C.tL λ es hL=>?_;have nx:kw st.T (.mr k n)=some (some (.i 0<|Int.ofNat k,.mr (k+1) n)):=by
   unfold kw;dsimp only;rw[py,decide_eq_true lt]
  have as:jq L cs (.l 323) (.i 0<|Int.ofNat k) st=some (im L (.ns<|dL 323 (.i 0<|Int.ofNat k) es) st):=bE (eI hL) rfl;have g1:(im L (.ns<|dL 323 (.i 0<|Int.ofNat k) es) st).T.get L=some (.ns<|dL 323 (.i 0<|Int.ofNat k) es):=(TR.bu _ st.T L L).trans<|if_pos rfl;have l1:lk 323 (dL 323 (.i 0<|Int.ofNat k) es)=some (.i 0<|Int.ofNat k):=by rw[cw];rfl
  have C1:=C.keep (Ke.im C.ll<|.ns<|dL 323 (.i 0<|Int.ofNat k) es) ⟨_,g1⟩;have ce:=Nu (X:=X) (m:=g+3) (y:=y k) C1 g1 l1 hl<|hy k lt;have g2:(a_ (.list<|xs++ys)<|im L (.ns<|dL 323 (.i 0<|Int.ofNat k) es) st).T.get L=some (.ns<|dL 323 (.i 0<|Int.ofNat k) es):=(Ke.a_ (L:=L+1)<|.list<|xs++ys).get L C1.ll (by exactλ h=>nomatch h)|>.trans g1
  have J:=C1.keep (Ke.a_<|.list<|xs++ys) ⟨_,g2⟩;refine bc (Jo O hn hl hy d (k+1) g _ ((Nat.succ_add k d).trans B) (kS hg) J) λ ab e K tL=>?_;have ck:rH (ev X<|g+8) L cs [p_] (im L (.ns<|dL 323 (.i 0<|Int.ofNat k) es) st)=some (!y k,a_ (.list<|xs++ys)<|im L (.ns<|dL 323 (.i 0<|Int.ofNat k) es) st):=(d8 ce rfl:bF _ (λ v st=>bd (bf st.T v) λ y=>some (y,st))=_);refine(cC ab ?_ (((Ke.im C.ll _).trans<|Ke.a_ _).trans K) tL);refine bE nx<|bE as<|d8 ck ?_;rw[List.range'_succ];cases B:y k with
  |true=>
   rw[List.filter_cons_of_neg (by simp[B])];exact e
  |false=>
   rw[List.filter_cons_of_pos (by simp[B]),List.map_cons];have hx:ns[k]?=some (ns.getD k .none):=by
    rw[List.getD,List.getElem?_eq_getElem<|O▸lt];rfl
   have ee:(ev X<|g+8).E L cs zq (a_ (.list<|xs++ys)<|im L (.ns<|dL 323 (.i 0<|Int.ofNat k) es) st)=some (ns.getD k .none,a_ (.list<|xs++ys)<|im L (.ns<|dL 323 (.i 0<|Int.ofNat k) es) st):=
    ki (m:=g+7) (jl J.h2 J.t2) (gF g2 l1) (jR J.tn hx<|O▸dN hn (by decide))
   exact d8 ee<|d8 e rfl
end
noncomputable def lm(x:Int):AV:=.i 0 x
noncomputable def iN(e:El):AV:=if e.k=0 then .none else .i 0 e.k
noncomputable def insI(a:Int):List Int->List Int
 |[]=>[a]|c::l=>if a<c then a::c::l else c::insI a l
def sortI(l:List Int):List Int:=l.foldr insI []
theorem insI_perm(a:Int):∀l,(insI a l).Perm (a::l)
 |[]=>.refl _|c::l=>by
  unfold insI;split
  .exact .refl _
  .exact((insI_perm a l).cons c).trans (.swap _ _ _)
theorem nu(a:Int):∀{l:List Int},l.Pairwise (· <= ·)->(insI a l).Pairwise (· <= ·)
 |[],_=>by simp[insI]|c::l,h=>by
  have h':=List.pairwise_cons.mp h;unfold insI;split
  .rename_i B;refine List.pairwise_cons.mpr ⟨λ b hb=>?_,h⟩;clear h;rcases bG hb with rfl|hb
   .lia
   .have:=h'.1 b hb;lia
  .rename_i B;refine List.pairwise_cons.mpr ⟨λ b hb=>?_,nu a h'.2⟩;rcases bG ((insI_perm a l).mem_iff.mp hb)with rfl|hb
   .lia
   .exact h'.1 b hb
theorem sortI_perm:∀l,(sortI l).Perm l
 |[]=>.refl _|a::l=>(insI_perm a _).trans<|(sortI_perm l).cons a
theorem iL:∀l,(sortI l).Pairwise (· <= ·)
 |[]=>.nil|a::l=>nu a<|iL l
theorem Cu{l k:List Int}(p:l.Perm k):sortI l=sortI k:=
 List.Perm.eq_of_pairwise (le:=(· <= ·)) (λ a b _ _ h1 h2=>Int.le_antisymm h1 h2) (iL l) (iL k) ((sortI_perm l).trans<|p.trans (sortI_perm k).symm)
section
variable{X:Env}
theorem Hi(a c:Int):TW X 0 a 0 c=some (decide<|a<c):=congrArg some<|IN a c
theorem zI(a c:Int):H2 X (.i 0 a) (.i 0 c)=some (decide<|a=c):=congrArg some<|rs a c
theorem zu(a:Int):∀l:List Int,T0 X (lm a) (l.map lm)=some ((insI a l).map lm)
 |[]=>rfl|c::l=>by
  refine(bE (Hi a c) ?_:bd (TW X 0 a 0 c) (λ b=>match b with|true=>some (lm a::lm c::l.map lm)|false=>bd (T0 X (lm a)<|l.map lm) λ l'=>some (lm c::l'))=_);rw[show insI a (c::l)=if a<c then a::c::l else c::insI a l from rfl];by_cases h:a<c
  .rw[decide_eq_true h,if_pos h];rfl
  .rw[decide_eq_false h,if_neg h];exact bE (zu a l) rfl
theorem mq:∀l:List Int,il X (l.map lm)=some ((sortI l).map lm)
 |[]=>rfl|a::l=>(bE (mq l) (zu a<|sortI l):bd (il X<|l.map lm) (λ ks=>T0 X (lm a) ks)=_)
theorem wx:∀l:List Int,EG X (l.map lm) (l.map lm)=some true
 |[]=>rfl|a::l=>(bE ((zI a a).trans<|congrArg some<|decide_eq_true rfl) (bE (wx l) rfl):bd (H2 X (.i 0 a)<|.i 0 a) (λ x=>bd (EG X (l.map lm)<|l.map lm) λ y=>some<|x&&y)=_)
theorem KX(m:Nat)(e:El):H2 X (iN e) (.i 0 (m+1:Nat))=some (e.k==m+1):=by
 unfold iN;by_cases h0:e.k=0
 .rw[if_pos h0,h0];rfl
 .rw[if_neg h0,zI];congr 1;by_cases h1:e.k=m+1
  .rw[h1];simp
  .rw[decide_eq_false (by lia)];simp[h1]
theorem pY(m:Nat):∀l:List El,isIn X (.i 0 (m+1:Nat)) (l.map iN)=some (l.any λ e=>e.k==m+1)
 |[]=>rfl|e::l=>(bE (KX m e) (bE (pY m l) rfl):bd (H2 X (iN e)<|.i 0 (m+1:Nat)) (λ x=>bd (isIn X (.i 0 (m+1:Nat))<|l.map iN) λ y=>some<|x||y)=_)
end
noncomputable def Dx:IE:=.call (.cJ 57<|.bi 0) [.b9 316]
def UR:IE:=.comp zq (.l 323) (.call (.cJ 171<|.ty 5) [Dx]) [p_] [316,122]
section
variable{X:Env}{L:Nat}{cs:Cs}{ns:List AV}
theorem Ro{m:Nat}(h2:lk 316 cs=some c2)(t2:st.T.get c2=some (.cell<|some<|.r jn))(tn:st.T.get jn=some (.list ns)):(ev X<|m+3).E L cs Dx st=some (.i 0<|Int.ofNat ns.length,st):=by
 have a1:(ev X<|m+2).Es L cs [.b9 316] st=some ([.r jn],st):=(d8 (jl h2 t2) rfl:bF ((ev X<|m+1).E L cs (.b9 316) st) (λ v st=>bF ((ev X<|m+1).Es L cs [] st) λ vs st=>some (v::vs,st))=_);have b:wR [.r jn] st=some (.i 0<|Int.ofNat ns.length,st):=(bE tn (bE (a:=AV.i 0<|Int.ofNat<|len ns) rfl<|congrArg (λ k=>some (AV.i 0<|Int.ofNat k,st))<|db ns):bd (st.T.get jn) (λ o=>bd (Dw o) λ n=>some (n,st))=_);exact(d8 (a:=AV.bi 0) (st:=st) rfl (d8 a1 (xg b:mZ X (ev X<|m+2) (.bi 0) [.r jn] st=_)):zN X (ev X<|m+2) L cs (.cJ 57<|.bi 0) [.b9 316] st=_)
theorem Nv{g n:Nat}(hg:n<=g){y:Nat->Bool}(h1:lk 122 cs=some c1)(h2:lk 316 cs=some c2)(ZM:(cs.filter λ p=>[316,122].any (Nat.beq p.1))=cs')(HK:lk 122 cs'=some c1)(HJ:lk 316 cs'=some c2)(t1:st.T.get c1=some (.cell<|some<|.r jr))(t2:st.T.get c2=some (.cell<|some<|.r jn))(tr:st.T.get jr=some (.list [.r j0,.r j1]))(ta:st.T.get j0=some (.list xs))(tb:st.T.get j1=some (.list ys))(tn:st.T.get jn=some (.list ns))(lt:∀i∈[c1,c2,jr,j0,j1,jn],i<st.nx)(hN:ns.length=n)(J:n<1000)(hl:xs.length+ys.length<=4000)(hy:∀k,k<n->isIn X (.i 0 (k+1:Nat)) (xs++ys)=some (y k)):∃ab,(ev X<|g+9).E L cs UR st=some (.r ab.nx.pred,ab)/\ab.T.get ab.nx.pred=some (.list<|((List.range n).filter λ i=> !y i).map λ i=>ns.getD i .none)/\st.nx<ab.nx/\(∀i,i<st.nx->ab.T.get i=st.T.get i)/\((∀i o,st.T.get i=some o->i<st.nx)->∀i o,ab.T.get i=some o->i<ab.nx):=by
 have hK:Jp (ev X<|g+8) L cs (.call (.cJ 171<|.ty 5) [Dx]) st=some (.mr 0 n,st):=by
  exact(d8 ((Ro (m:=g+5) h2 t2 tn).trans<|congrArg (λ k=>some (AV.i 0<|Int.ofNat k,st)) hN) (bE (r7 (Nat.ble_eq.mpr<|d4<|dN J (by decide)) rfl:Av (.i 0<|Int.ofNat n)=some (.mr 0 n)) rfl):bF ((ev X<|g+8).E L cs Dx st) (λ v st=>bd (Av v) λ i=>some (i,st))=_)
 have k0:Ke st.nx st (a_ (.ns []) st):=Ke.a_ _;have gL:(a_ (.ns []) st).T.get st.nx=some (.ns []):=by
  show(st.T.dL _ st.nx).get st.nx=_;rw[TR.bu,if_pos rfl]
 have B:∀i∈[c1,c2,jr,j0,j1,jn],(a_ (.ns []) st).T.get i=st.T.get i:=λ i hi=>k0.get i (lt i hi)<|dI<|lt i hi;have C:Cm st.nx c1 c2 jr j0 j1 jn cs' xs ys ns (a_ (.ns []) st):=⟨HK,HJ,(B _ m0).trans t1,(B _ m1).trans t2,(B _ m2).trans tr,(B _ m3).trans ta,(B _ m4).trans tb,(B _ m5).trans tn,⟨_,gL⟩,λ i hi=>⟨fh<|lt i hi,dI<|lt i hi⟩,bZ _⟩;refine bc (Jo (X:=X) hN J hl hy n 0 g _ (Nat.zero_add n) hg C) λ uZ e K fy=>xE fy λ es tL=>?_;have O:([316,122].all λ x=>(lk x cs).isSome)=true:=by simp[h1,h2]
 refine(gZ (a_ (.list<|((List.range n).filter λ i=> !y i).map λ i=>ns.getD i .none)<|bK st.nx uZ) ?_ ?_ ?_ (λ i hi=>?_)<|λ h=>mC (λ i o e=>?_) _)
 .refine(d8 hK (r7 O<|ZM▸d8 e (bE (eI tL)<|r7 ?_ ?_)):rG (ev X<|g+8) L cs zq (.l 323) (.call (.cJ 171<|.ty 5) [Dx]) [p_] [316,122] st=_)
  .rw[db,List.length_map];exact Nat.ble_eq.mpr (ae (List.length_filter_le _ _)<|ae (cB List.length_range')<|d4<|dN J (by decide))
  .rw[<-List.range_eq_range'];rfl
 .show((bK st.nx uZ).T.dL _ (bK st.nx uZ).nx).get (bK st.nx uZ).nx=_;rw[TR.bu,if_pos rfl]
 .show st.nx<uZ.nx+1;exact de K.nx
 .have n3:st.nx+1<=uZ.nx:=K.nx;show((uZ.T.del st.nx).dL _ uZ.nx).get i=_;rw[TR.bu,if_neg<|Nat.ne_of_lt<|Nat.lt_trans hi n3,TR.fW,if_neg<|Nat.ne_of_lt hi,K.get i (Nat.lt_succ_of_lt hi)<|Nat.ne_of_lt hi];exact k0.get i hi (dI hi)
 .have e:(uZ.T.del st.nx).get i=some o:=e;rw[TR.fW]at e;by_cases q:i=st.nx
  .rw[if_pos q]at e;exact nn e
  .rw[if_neg q]at e;exact K.lt (k0.lt h) i o e
end
section
variable{X:Env}{m L x d:Nat}{cs:Cs}{e:IE}
theorem Vt(h1:(ev X m).E L cs e st=some (.r j,ac))(h2:ac.T.get j=some (.inst c d))(B:ac.T.get d=some (.ns es))(J:lk x es=some v):(ev X<|m+1).E L cs (.dg e x) st=some (v,ac):=
 (d8 h1 (bE (bE (bE h2 rfl:ownOf ac j=some (c,d)) (bE (eI B) J):yh (.r j) x ac=some v) rfl):MX (ev X m) L cs e x st=_)
theorem rQ:(ev X<|m+2).E L cs (.list []) st=some (.r st.nx,a_ (.list []) st):=rfl
theorem qG{b}{es}{r:Option<|AV×St}(h1:(ev X m).E L cs e st=some (.b true,ac))(h2:(ev X m).E L cs (.and (b::es)) ac=r):(ev X<|m+1).E L cs (.and (e::b::es)) st=r:=
 (d8 h1 h2:bF ((ev X m).E L cs e st) (λ v st=>bd (bf st.T v) λ x=>match x with|true=>(ev X m).E L cs (.and (b::es)) st|false=>some (v,st))=_)
theorem uu{r:Option<|AV×St}(h1:(ev X m).E L cs e st=r):(ev X<|m+1).E L cs (.and [e]) st=r:=h1
theorem Ae(h1:(ev X<|m+2).E L cs e st=some (.r j,ac))(h2:ac.T.get j=some (.list []))(B:j<ac.nx):(ev X<|m+3).E L cs (.cmp .eq e<|.list []) st=some (.b true,a_ (.list []) ac):=by
 refine dZ (m:=m+2) h1 rQ ?_;show Tr X (a_ (.list []) ac).T (.r j) (.r ac.nx)=_;have g1:(a_ (.list []) ac).T.get j=some (.list []):=by
  show(ac.T.dL _ ac.nx).get j=_;rw[TR.bu,if_neg<|Nat.ne_of_lt B];exact h2
 have g2:(a_ (.list []) ac).T.get ac.nx=some (.list []):=by
  show(ac.T.dL _ ac.nx).get ac.nx=_;rw[TR.bu,if_pos rfl]
 exact xg<|xg<|bE (bE g1 rfl:g_ _ j=some true)<|bE (bE g2 rfl:g_ _ ac.nx=some true) rfl
theorem ur{f a}{b}{r:Option<|AV×St}{x:Nat}(h1:(ev X m).E L cs b st=some (a,ac))(h2:mZ X (ev X<|m+1) f [a] ac=r):(ev X<|m+2).E L cs (.call (.cJ x f) [b]) st=r:=by
 have a1:(ev X<|m+1).Es L cs [b] st=some ([a],ac):=by
  clear h2;cases m with|zero=>exact nn h1|succ m=>
   show bF ((ev X<|m+1).E L cs b st) (λ v st=>bF ((ev X<|m+1).Es L cs [] st) λ vs st=>some (v::vs,st))=_;rw[h1,cz];rfl
 show bF ((ev X<|m+1).E L cs (.cJ x f) st) (λ f st=>bF ((ev X<|m+1).Es L cs [b] st) λ as st=>mZ X (ev X<|m+1) f as st)=_;rw[show(ev X<|m+1).E L cs (.cJ x f) st=some (f,st)from rfl,cz,a1,cz];exact h2
theorem w4{l:List Int}{b}{g:Nat}(h1:(ev X m).E L cs b st=some (.r j,ac))(h2:ac.T.get j=some (.list<|l.map lm))(hl:l.length<=60):(ev X<|m+2).E L cs (.call (.cJ g<|.bi 2) [b]) st=some (.r ac.nx,a_ (.list<|(sortI l).map lm) ac):=by
 refine ur h1 ?_;have b:iG X [.r j] ac=some (.r ac.nx,a_ (.list<|(sortI l).map lm) ac):=(bE h2 (bE (r7 (by rw[db,List.length_map];exact Nat.ble_eq.mpr hl) (mq l):u9 X (.list<|l.map lm)=some ((sortI l).map lm)) rfl):bd (ac.T.get j) (λ o=>bd (u9 X o) λ ys=>new (.list ys) ac)=_);exact(xg b:pt (iG X [.r j] ac) (cj (Nat.beq 2 6)<|zT X [.r j] ac)=_)
theorem HZ{T:TR AO}{k:Nat}{l:List Int}(h1:T.get j=some (.list<|l.map lm))(h2:T.get k=some (.list<|l.map lm)):Tr X T (.r j) (.r k)=some true:=by
 cases l with|nil=>exact xg (xg (bE (bE h1 rfl:g_ T j=some true) (bE (bE h2 rfl:g_ T k=some true) rfl):WC T j k=some true))|cons a l=>
  refine xg<|U8 (bE (bE h1 rfl:g_ T j=some false) (bE (bE h2 rfl:g_ T k=some false) rfl):WC T j k=none) (bE (cP h1) (bE (cP h2) ?_):MF X T j k=some true);rw[TR.i8,decide_eq_true rfl];exact wx (a::l)
end
def Ob(st:St)(a c:Nat)(es:List<|Nat×AV):Prop:=∃d,st.T.get a=some (.inst c d)/\st.T.get d=some (.ns es)
variable{ss:List IS}
section
variable{X:Env}{m L x a:Nat}{cs:Cs}{e l r:IE}{R:Option<|Fl×St}
theorem bp(o:AO)(i:Nat):(a_ o st).T.get i=if i=st.nx then some o else st.T.get i:=TR.bu _ _ _ _
theorem aW(o:AO)(j i:Nat):(im j o st).T.get i=if i=j then some o else st.T.get i:=TR.bu _ _ _ _
theorem eS(h:st.T.get L=some (.ns es)):lX L x v st=some (im L (.ns<|dL x v es) st):=bE (eI h) rfl
theorem zY{o:Option AV}(h1:lk x cs=some c)(h2:st.T.get c=some (.cell o)):wU cs x v st=some (im c (.cell<|some v) st):=bE h1<|bE h2 rfl
theorem bR(h1:(ev X m).E L cs e st=some (.r j,ac))(h2:Ob ac j c es)(B:lk x es=some v):(ev X<|m+1).E L cs (.dg e x) st=some (v,ac):=
 let⟨_,a,b⟩:=h2
 Vt h1 a b B
theorem gD(h1:(ev X m).E L cs e st=some (v,ac))(h2:ac.T.get L=some (.ns es))(B:(ev X m).S L cs ss (im L (.ns<|dL x v es) ac)=R):(ev X<|m+1).S L cs (.asg (.l x) e::ss) st=R:=by
 rw[show(ev X<|m+1).S L cs (.asg (.l x) e::ss) st=bF (bF ((ev X m).E L cs e st) λ v st=>bd (lX L x v st) λ st=>some (Fl.d6,st)) (xD (ev X m) L cs ss)from rfl,h1,cz,eS h2,fR,cz];exact B
theorem jH(h1:(ev X m).E L cs e st=some (v,ac)):(ev X<|m+1).S L cs (.ret (some e)::ss) st=some (.ret v,ac):=by
 rw[show(ev X<|m+1).S L cs (.ret (some e)::ss) st=bF (bF ((ev X m).E L cs e st) λ v st=>some (Fl.ret v,st)) (xD (ev X m) L cs ss)from rfl,h1,cz,cz];rfl
structure Vr(st:St)(L:Nat)(es:List<|Nat×AV)(cl:List<|Nat×AV)(ac:St):Prop where
 nx:ac.nx=L+1+cl.length
 loc:ac.T.get L=some (.ns es)
 b9:∀p∈cl,ac.T.get p.1=some (.cell<|some p.2)/\L<p.1/\p.1<ac.nx
 nl:∀i,i<L->ac.T.get i=st.T.get i
 lt:(∀i o,st.T.get i=some o->i<st.nx)->∀i o,ac.T.get i=some o->i<ac.nx
end
theorem Fk{X:Env}{m:Nat}{f:Fn}{cs}(B:X.fn.get fa=some f)(hz:FM f.ps (fill f.ps f.dv as)=some bs)(hc:fw f.cells (a_ (.ns []) st) cs=(cs',aH))(hb:cL st.nx f.cells cs' bs aH=some ac):
  (ev X<|m+1).C fa as cs st=bF ((ev X m).S st.nx cs' f.body ac) kc:=by
 show bd (X.fn.get fa) (λ f=>bd (FM f.ps<|fill f.ps f.dv as) λ bs=>match fw f.cells (a_ (.ns []) st) cs with|(cs',st2)=>bd (cL st.nx f.cells cs' bs st2) λ st2=>bF ((ev X m).S st.nx cs' f.body st2) kc)=_;rw[B,fR,hz,fR,hc];show bd (cL st.nx f.cells cs' bs aH) _=_;rw[hb,fR]
section
variable{L x:Nat}{cells:List Nat}{cs:Cs}{R:Option St}
theorem qx(B:cells.any (Nat.beq x)=false)(h:st.T.get L=some (.ns es))(r:cL L cells cs bs (im L (.ns<|dL x v es) st)=R):cL L cells cs ((x,v)::bs) st=R:=by
 show(match cells.any (Nat.beq x)with|true=>bd (wU cs x v st) λ st=>cL L cells cs bs st|false=>bd (lX L x v st) λ st=>cL L cells cs bs st)=R;rw[B];dsimp only;rw[eS h,fR];exact r
theorem zV{o:Option AV}(B:cells.any (Nat.beq x)=true)(h1:lk x cs=some c)(h:st.T.get c=some (.cell o))(r:cL L cells cs bs (im c (.cell<|some v) st)=R):cL L cells cs ((x,v)::bs) st=R:=by
 show(match cells.any (Nat.beq x)with|true=>bd (wU cs x v st) λ st=>cL L cells cs bs st|false=>bd (lX L x v st) λ st=>cL L cells cs bs st)=R;rw[B];dsimp only;rw[zY h1 h,fR];exact r
def PB(es bs:List<|Nat×AV):List (Nat×AV):=bs.foldl (λ es p=>dL p.1 p.2 es) es
theorem JW:∀(bs:List<|Nat×AV){st:St}{es:List<|Nat×AV},st.T.get L=some (.ns es)->∃ac,cL L [] cs bs st=some ac/\ac.nx=st.nx/\ac.T.get L=some (.ns<|PB es bs)/\∀i,i≠L->ac.T.get i=st.T.get i
 |[],st,es,h=>(iC st rfl rfl h<|λ _ _=>rfl)|(x,v)::bs,st,es,h=>by
  refine du (JW bs (st:=im L (.ns<|dL x v es) st) (es:=dL x v es) (by rw[aW,if_pos rfl])) λ ac a b c d=>?_;exact(iC ac (qx rfl h a) b c<|λ i hi=>(d i hi).trans (by rw[aW,if_neg hi]))
end
theorem Vu{X:Env}{m:Nat}{a b c d e}(B:X.fn.get 1350=some nF):∃ac,Vr st st.nx [(63,a),(264,d),(321,e)] [(st.nx+1,b),(st.nx+2,c)] ac/\
  (ev X<|m+1).C 1350 [a,b,c,d,e] [] st=bF ((ev X m).S st.nx [(316,st.nx+2),(122,st.nx+1)] nF.body ac) kc:=by
 refine⟨im st.nx (.ns [(63,a),(264,d),(321,e)])<|im st.nx (.ns [(63,a),(264,d)])<|im (st.nx+2) (.cell<|some c)<|im (st.nx+1) (.cell<|some b)<|im st.nx (.ns [(63,a)])<|a_ (.cell none)<|a_ (.cell none)<|a_ (.ns []) st,?_,Fk B rfl rfl ?_⟩
 .refine⟨rfl,by simp[aW],?_,λ i hi=>?_,λ h=>?_⟩
  .have:∀q∈[(st.nx+1,b),(st.nx+2,c)],q=(st.nx+1,b)\/q=(st.nx+2,c):=by simp
   intro p hp;rcases this p hp with rfl|rfl<;>refine⟨?_,by show st.nx<st.nx+_;(first|exact bZ _|exact bW _),by show _<st.nx+1+1+1;(first|exact bW _|exact bZ _)⟩<;>simp[aW]
  .have:i≠st.nx:=by exact dI (by assumption)
   have:i≠st.nx+1:=by lia
   have:i≠st.nx+2:=by lia
   simp[aW,bp, *,show(a_ (.ns []) st).nx=st.nx+1 from rfl,show(a_ (.cell none)<|a_ (.ns []) st).nx=st.nx+2 from rfl]
  .have J:(a_ (.cell none)<|a_ (.cell none)<|a_ (.ns []) st).nx=st.nx+3:=rfl;exact kE (kE (kE (kE (kE (mC (mC (mC h _) _) _) (by lia) _) (by show st.nx+1<st.nx+3;exact bW _) _) (by show st.nx+2<st.nx+3;exact bZ _) _) (by show st.nx<st.nx+3;simp) _) (by show st.nx<st.nx+3;simp) _
 .have n1:(a_ (.ns []) st).nx=st.nx+1:=rfl;have n2:(a_ (.cell none)<|a_ (.ns []) st).nx=st.nx+2:=rfl;exact qx (es:=[]) rfl (by simp[bp,n1,n2])<|zV rfl rfl (by simp[aW,bp,n1,n2];rfl)<|zV rfl rfl (by simp[aW,bp,n1,n2];rfl)<|qx (es:=[(63,a)]) rfl (by simp[aW];rfl)<|qx (es:=[(63,a),(264,d)]) rfl (by simp[aW];rfl) rfl
section
variable{X:Env}{m L x k a g:Nat}{cs:Cs}{e l r b:IE}{R:Option<|Fl×St}
theorem FD(h1:(ev X m).E L cs b st=some (.r j,ac))(h2:ac.T.get j=some (.list xs)):(ev X<|m+2).E L cs (.call (.cJ g<|.bi 0) [b]) st=some (.i 0<|Int.ofNat xs.length,ac):=by
 refine ur h1 ?_;have b:wR [.r j] ac=some (.i 0<|Int.ofNat xs.length,ac):=(bE h2 (bE (a:=AV.i 0<|Int.ofNat<|len xs) rfl<|congrArg (λ k=>some (AV.i 0<|Int.ofNat k,ac))<|db xs):bd (ac.T.get j) (λ o=>bd (Dw o) λ n=>some (n,ac))=_);exact(xg b:pt (wR [.r j] ac) _=_)
theorem FG(h1:(ev X m).E L cs l st=some (.r j,ac))(h2:(ev X m).E L cs r ac=some (.r k,af))(g1:af.T.get j=some (.list xs))(g2:af.T.get k=some (.list ys))(hl:xs.length+ys.length<=4000):
  (ev X<|m+1).E L cs (.bin .add l r) st=some (.r af.nx,a_ (.list<|xs++ys) af):=by
 refine FE h1 h2 ?_;exact xg<|bE (cP g1)<|bE (cP g2)<|r7 (db xs▸db ys▸Nat.ble_eq.mpr hl)<|congrArg (λ l=>new (.list l) af)<|hG xs ys
end
structure Lk(st:St)(run jr j0 j1 jn jg jh:Nat)(xs ys:List AV)(N ρ H:List Int):Prop where
 sv:∃c es j,Ob st run c es/\lk 76 es=some (.r j)/\st.T.get j=some (.list [])
 fr:∃c es j v,Ob st run c es/\lk 92 es=some (.r j)/\st.T.get j=some (.list [v])
 ze:∃c es hp c' f8 j,Ob st run c es/\lk 55 es=some (.r hp)/\Ob st hp c' f8/\lk 31 f8=some (.r j)/\st.T.get j=some (.list [])
 tr:st.T.get jr=some (.list [.r j0,.r j1])
 ta:st.T.get j0=some (.list xs)
 tb:st.T.get j1=some (.list ys)
 tn:st.T.get jn=some (.list<|N.map lm)
 tg:st.T.get jg=some (.list<|ρ.map lm)
 th:st.T.get jh=some (.list<|H.map lm)
 lt:∀i o,st.T.get i=some o->i<st.nx
theorem Ob.move{a:Nat}(lt:∀i o,st.T.get i=some o->i<st.nx)(H:Ob st a c es)(k:∀i,i<st.nx->ab.T.get i=st.T.get i):Ob ab a c es:=
 let⟨d,h1,h2⟩:=H
 ⟨d,(k a<|lt _ _ h1).trans h1,(k d<|lt _ _ h2).trans h2⟩
structure Fa(st ab:St)(R:Nat)(M:List Int)(es:List<|Nat×AV):Prop where
 r:st.nx<R
 n:R<ab.nx
 loc:ab.T.get st.nx=some (.ns es)
 R:ab.T.get R=some (.list<|M.map lm)
 nl:∀i,i<st.nx->ab.T.get i=st.T.get i
 lt:∀i o,ab.T.get i=some o->i<ab.nx
theorem Fa.a_{R:Nat}{M}(F:Fa st ab R M es)(o:AO):Fa st (a_ o ab) R M es:=by
 refine⟨F.r,fh F.n,?_,?_,λ i hi=>?_,mC F.lt o⟩
 .rw[bp,if_neg<|Nat.ne_of_lt<|Nat.lt_trans F.r F.n];exact F.loc
 .rw[bp,if_neg<|Nat.ne_of_lt F.n];exact F.R
 .rw[bp,if_neg<|Nat.ne_of_lt<|Nat.lt_trans hi<|Nat.lt_trans F.r F.n];exact F.nl i hi
theorem Fa.im{R:Nat}{M}(F:Fa st ab R M es)(f8:List<|Nat×AV):Fa st (im st.nx (.ns f8) ab) R M f8:=by
 refine⟨F.r,F.n,?_,?_,λ i hi=>?_,kE F.lt (F.lt _ _ F.loc) _⟩
 .rw[aW,if_pos rfl]
 .rw[aW,if_neg<|Nat.ne_of_gt F.r];exact F.R
 .rw[aW,if_neg<|Nat.ne_of_lt hi];exact F.nl i hi
variable{run jg jh:Nat}
theorem GJ{X:Env}{n:Nat}{N ρ H:List Int}{y:Nat->Bool}{g:Nat}(hg:n<=g)(hX:X.fn.get 1350=some nF)(W:Lk st run jr j0 j1 jn jg jh xs ys N ρ H)(hn:N.length=n)(n1:n<1000)(hl:xs.length+ys.length<=4000)(hy:∀k,k<n->isIn X (.i 0 (k+1:Nat)) (xs++ys)=some (y k))(hH:H.length<=60)(hp:H.Perm<|(((List.range n).filter λ i=> !y i).map λ i=>N.getD i 0)++ρ):
  ∃ab,(ev X<|g+20).C 1350 [.r run,.r jr,.r jn,.r jg,.r jh] [] st=some (.b true,ab)/\st.nx<=ab.nx/\(∀i,i<st.nx->ab.T.get i=st.T.get i)/\∀i o,ab.T.get i=some o->i<ab.nx:=by
 refine a8 (Vu (X:=X) (m:=g+19) (st:=st) (a:=.r run) (b:=.r jr) (c:=.r jn) (d:=.r jg) (e:=.r jh) hX) λ ac J e1=>?_;have VY:ac.nx=st.nx+3:=J.nx;refine ib (J.b9 _<|.head _) λ c1 he En=>?_;refine ib (J.b9 _<|.tail _<|.head _) λ c2 hf F3=>?_;have mv:∀{i o},st.T.get i=some o->ac.T.get i=some o/\i<ac.nx/\i<st.nx:=λ{i o} h=>⟨(J.nl i<|W.lt i o h).trans h,VY▸Nat.lt_add_right 3 (W.lt i o h),W.lt i o h⟩;refine du (Nv (X:=X) (L:=st.nx) (g:=g+9) (y:=y) (cs:=[(316,st.nx+2),(122,st.nx+1)]) (cs':=[(316,st.nx+2),(122,st.nx+1)]) (ae hg<|bL g 9) rfl rfl rfl rfl rfl c1 c2 (mv W.tr).1 (mv W.ta).1 (mv W.tb).1 (mv W.tn).1
  (aC En<|aC F3<|aC (mv W.tr).2.1<|aC (mv W.ta).2.1<|aC (mv W.tb).2.1<|aC (mv W.tn).2.1 aZ) ((List.length_map _).trans hn) n1 hl hy) λ af e2 g2 n2 fy=>xA fy λ k2 h4=>?_
 have en:(((List.range n).filter λ i=> !y i).map λ i=>(N.map lm).getD i .none)=(((List.range n).filter λ i=> !y i).map λ i=>N.getD i 0).map lm:=by
  rw[List.map_map];refine List.map_congr_left λ i hi=>?_;have:i<N.length:=by rw[hn];exact List.mem_range.mp (List.mem_filter.mp hi).1
  simp[List.getD,this]
 rw[en]at g2;generalize hM:(((List.range n).filter λ i=> !y i).map λ i=>N.getD i 0)=M at g2 hp;have L2:af.T.get st.nx=some (.ns [(63,.r run),(264,.r jg),(321,.r jh)]):=(k2 _<|VY▸Nat.lt_add_of_pos_right (by decide)).trans J.loc;have XX:∀i,i<st.nx->af.T.get i=st.T.get i:=λ i hi=>(k2 i<|VY▸Nat.lt_add_right 3 hi).trans<|J.nl i hi;refine xE (Nat.exists_eq_succ_of_ne_zero<|cV<|Nat.zero_lt_of_lt n2) λ R hR=>?_;have h0:af.nx.pred=R:=by rw[hR];rfl
 rw[h0]at g2 e2;have F2:Fa st af R M [(63,.r run),(264,.r jg),(321,.r jh)]:=⟨ba (Nat.lt_add_of_pos_right (by decide))<|Nat.le_of_lt_succ<|Nat.lt_of_lt_of_eq (eh (cB VY.symm) n2) hR,hR▸bZ R,L2,g2,XX,h4<|J.lt W.lt⟩;obtain⟨aJ,h3⟩:∃x,x=im st.nx (.ns [(63,.r run),(264,.r jg),(321,.r jh),(322,.r R)]) af:=⟨_,rfl⟩;obtain⟨fb,h5⟩:∃x,x=a_ (.list []) (a_ (.list []) aJ):=⟨_,rfl⟩;obtain⟨ij,h6⟩:∃x,x=im st.nx (.ns [(63,.r run),(264,.r jg),(321,.r jh),(322,.r R),(324,.b true)]) fb:=⟨_,rfl⟩;obtain⟨jz,h7⟩:∃x,x=a_ (.list<|(sortI H).map lm) ij:=⟨_,rfl⟩;obtain⟨nh,h8⟩:∃x,x=a_ (.list<|M.map lm++ρ.map lm) jz:=⟨_,rfl⟩;obtain⟨q4,h9⟩:∃x,x=a_ (.list<|(sortI<|M++ρ).map lm) nh:=⟨_,rfl⟩;have O:Fa st aJ R M _:=h3▸F2.im _;have F5:Fa st fb R M _:=h5▸(O.a_ _).a_ _;have F6:Fa st ij R M _:=h6▸F5.im _;have F7:Fa st jz R M _:=h7▸F6.a_ _;have F8:Fa st nh R M _:=h8▸F7.a_ _;have F9:Fa st q4 R M _:=h9▸F8.a_ _;have F4:=O.a_<|.list [];refine(iC q4 ?_ (d4<|dN F9.1 F9.2) F9.5 F9.6);refine gT W.sv λ _ hj v8 o1 a1 l1=>?_;refine fU W.fr λ _ qH hr v2 o2 a2 l2=>?_;refine j_ W.ze λ _ hk fy=>cZ fy λ Wg _ hq ht o3 a3 o4 a4 l3=>?_;have g7:q4.T.get ij.nx=some (.list<|(sortI H).map lm):=by
  rw[h9,bp,if_neg (by rw[h8,h7];exact Nat.ne_of_lt<|Nat.lt_succ_of_lt<|Nat.lt_succ_self _),h8,bp,if_neg (by rw[h7];exact Nat.ne_of_lt<|Nat.lt_succ_self _),h7,bp,if_pos rfl]
 have g9:q4.T.get nh.nx=some (.list<|(sortI<|M++ρ).map lm):=by rw[h9,bp,if_pos rfl]
 have g8:nh.T.get jz.nx=some (.list<|(M++ρ).map lm):=by rw[h8,bp,if_pos rfl,List.map_append]
 rw[<-Cu hp]at g9;have body:(ev X<|g+19).S st.nx [(316,st.nx+2),(122,st.nx+1)] nF.body ac=some (.ret<|.b true,q4):=by
  have A:(ev X<|g+17).E st.nx [(316,st.nx+2),(122,st.nx+1)] (.and [.cmp .eq (.dg (.l 63) 76)<|.list [],.cmp .eq (.call (.cJ 57<|.bi 0) [.dg (.l 63) 92])<|.c<|.i 0 1,.cmp .eq (.dg (.dg (.l 63) 55) 31)<|.list []]) aJ=some (.b true,fb):=by
   rw[h5];have n4:∀{i o},st.T.get i=some o->i<aJ.nx:=λ{i o} h=>dN (W.lt i o h)<|dN O.1 O.2;refine qG (m:=g+16) (Ae (m:=g+13) (bR (gF O.3 rfl) (o1.move W.lt O.5) a1) ((O.5 _<|W.lt _ _ l1).trans l1)<|n4 l1) (qG (m:=g+15) (dZ (m:=g+14) (FD (bR (gF F4.3 rfl) (o2.move W.lt F4.5) a2)<|(F4.5 _<|W.lt _ _ l2).trans l2) rfl rfl)<|uu (m:=g+14)<|Ae (m:=g+11) (bR (bR (gF F4.3 rfl) (o3.move W.lt F4.5) a3) (o4.move W.lt F4.5) a4) ((F4.5 _<|W.lt _ _ l3).trans l3)<|fh<|n4 l3)
  have B:(ev X<|g+13).E st.nx [(316,st.nx+2),(122,st.nx+1)] (.call (.cJ 252<|.bi 2) [.l 321]) ij=some (.r ij.nx,jz):=by
   rw[h7];exact w4 (gF F6.3 rfl) ((F6.5 _<|W.lt _ _ W.th).trans W.th) hH
  have C:(ev X<|g+13).E st.nx [(316,st.nx+2),(122,st.nx+1)] (.call (.cJ 252<|.bi 2) [.bin .add (.l 322)<|.l 264]) jz=some (.r nh.nx,q4):=by
   rw[h9];refine w4 (m:=g+11) (ac:=nh) ?_ g8 (by rw[<-hp.length_eq];exact hH);rw[h8];exact FG (m:=g+10) (gF F7.3 rfl) (gF F7.3 rfl) F7.4 ((F7.5 _<|W.lt _ _ W.tg).trans W.tg) (by rw[List.length_map,List.length_map,<-List.length_append,<-hp.length_eq];exact ae hH (by decide))
  refine gD (m:=g+18) (x:=322) e2 L2 ?_;rw[show im st.nx (.ns<|dL 322 (.r R) [(63,.r run),(264,.r jg),(321,.r jh)]) af=aJ from h3.symm];refine gD (m:=g+17) (x:=324) A F5.3 ?_;rw[show im st.nx (.ns<|dL 324 (.b true) [(63,.r run),(264,.r jg),(321,.r jh),(322,.r R)]) fb=ij from h6.symm];exact jH (m:=g+16) (qG (m:=g+15) (gF (m:=g+14) F6.3 rfl)<|uu (m:=g+14)<|dZ (m:=g+13) B C<|HZ g7 g9)
 rw[show g+20=g+19+1 from rfl,e1,body,cz];rfl
section
variable{X:Env}{m L x k a g:Nat}{cs:Cs}{vs:List AV}{e l r b:IE}{as:List IE}{aq ci:List IS}{R:Option<|Fl×St}{r:Option<|AV×St}{y:Bool}
theorem bz:(ev X<|m+1).Es L cs [] st=some ([],st):=rfl
theorem aP(h1:(ev X m).E L cs e st=some (v,ac))(h2:(ev X m).Es L cs as ac=some (vs,af)):(ev X<|m+1).Es L cs (e::as) st=some (v::vs,af):=by
 show bF ((ev X m).E L cs e st) (λ v st=>bF ((ev X m).Es L cs as st) λ vs st=>some (v::vs,st))=_;rw[h1,cz,h2,cz]
theorem dF(hc:X.cl.get fa=none)(lt:Nat.blt fa 1358=true)(h1:(ev X<|m+1).Es L cs as st=some (vs,ac))(h2:(ev X<|m+1).C fa vs [] ac=r):(ev X<|m+2).E L cs (.call (.cJ x<|.g fa) as) st=r:=by
 show bF ((ev X<|m+1).E L cs (.cJ x<|.g fa) st) (λ f st=>bF ((ev X<|m+1).Es L cs as st) λ as st=>mZ X (ev X<|m+1) f as st)=_;rw[show(ev X<|m+1).E L cs (.cJ x<|.g fa) st=some (.g fa,st)from rfl,cz,h1,cz];show Ca X (ev X<|m+1) fa vs ac=r;unfold Ca;rw[hc];dsimp only;rw[lt];exact h2
theorem nM(h1:(ev X m).E L cs e st=some (v,ac))(h2:bf ac.T v=some y):(ev X<|m+1).E L cs (.not e) st=some (.b<|!y,ac):=by
 show bF ((ev X m).E L cs e st) (λ v st=>bd (bf st.T v) λ x=>some (AV.b<|!x,st))=_;rw[h1,cz,h2,fR]
theorem rP(h1:(ev X m).E L cs e st=some (v,ac))(h2:bf ac.T v=some false)(B:(ev X m).E L cs (.or (b::as)) ac=r):(ev X<|m+1).E L cs (.or (e::b::as)) st=r:=by
 show bF ((ev X m).E L cs e st) (λ v st=>bd (bf st.T v) λ x=>match x with|false=>(ev X m).E L cs (.or (b::as)) st|true=>some (v,st))=_;rw[h1,cz,h2,fR];exact B
theorem J8(h1:(ev X m).E L cs e st=some (v,ac))(h2:bf ac.T v=some true):(ev X<|m+1).E L cs (.or (e::b::as)) st=some (v,ac):=by
 show bF ((ev X m).E L cs e st) (λ v st=>bd (bf st.T v) λ x=>match x with|false=>(ev X m).E L cs (.or (b::as)) st|true=>some (v,st))=_;rw[h1,cz,h2,fR]
theorem FC(h1:(ev X m).E L cs e st=r):(ev X<|m+1).E L cs (.or [e]) st=r:=h1
theorem er(h1:(ev X m).E L cs e st=some (v,ac))(h2:bf ac.T v=some y)(B:(ev X m).S L cs (bif y then aq else ci) ac=some (.d6,af))(J:(ev X m).S L cs ss af=R):(ev X<|m+1).S L cs (.iff e aq ci::ss) st=R:=by
 rw[show(ev X<|m+1).S L cs (.iff e aq ci::ss) st=bF (bF ((ev X m).E L cs e st) λ v st=>bd (bf st.T v) λ x=>match x with|true=>(ev X m).S L cs aq st|false=>(ev X m).S L cs ci st) (xD (ev X m) L cs ss)from rfl,h1,cz,h2,fR];clear h2;cases y
 .rw[show(ev X m).S L cs ci ac=some (.d6,af)from B,cz];exact J
 .rw[show(ev X m).S L cs aq ac=some (.d6,af)from B,cz];exact J
theorem bw:(ev X<|m+1).S L cs [] st=some (.d6,st):=rfl
end
noncomputable def xu:IE:=.call (.cJ 331<|.g 1350) [.l 63,.l 122,.l 316,.l 264,.b9 321]
def mu:IS:=.iff (.or [.not<|.l 329,.not xu]) [.ret<|some<|.c<|.b false] []
def y7:IS:=.iff (.not xu) [.ret<|some<|.c<|.b false] []
structure Nm(st:St)(es:List<|Nat×AV)(run jr jn jg jh c:Nat):Prop where
 loc:st.T.get 0=some (.ns es)
 G0:lk 63 es=some (.r run)
 xK:lk 122 es=some (.r jr)
 AG:lk 316 es=some (.r jn)
 xJ:lk 264 es=some (.r jg)
 b9:st.T.get c=some (.cell<|some<|.r jh)
section
variable{X:Env}{n:Nat}{N ρ H:List Int}{y:Nat->Bool}
theorem y6(J:X.fn.get 1350=some nF)(hc:X.cl.get 1350=none)(V:Nm st es run jr jn jg jh c)(W:Lk st run jr j0 j1 jn jg jh xs ys N ρ H)(hn:N.length=n)(n1:n<1000)(hl:xs.length+ys.length<=4000){g:Nat}(O:n<=g)(hy:∀k,k<n->isIn X (.i 0 (k+1:Nat)) (xs++ys)=some (y k))(B:H.length<=60)(hp:H.Perm<|(((List.range n).filter λ i=> !y i).map λ i=>N.getD i 0)++ρ):
  ∃ab,(ev X<|g+21).E 0 [(321,c)] xu st=some (.b true,ab)/\st.nx<=ab.nx/\(∀i,i<st.nx->ab.T.get i=st.T.get i)/\∀i o,ab.T.get i=some o->i<ab.nx:=by
 refine bc (GJ O J W hn n1 hl hy B hp) λ ab e nx nl=>?_;exact(cC ab (dF (m:=g+19) hc rfl (aP (m:=g+19) (gF (m:=g+18) V.loc V.G0) (aP (m:=g+18) (gF (m:=g+17) V.loc V.xK) (aP (m:=g+17) (gF (m:=g+16) V.loc V.AG)
  (aP (m:=g+16) (gF (m:=g+15) V.loc V.xJ)<|aP (m:=g+15) (jl (m:=g+14) (c:=c) rfl V.b9) bz)))) e) nx nl)
theorem GI(B:lk 329 es=some (.b true))(O:X.fn.get 1350=some nF)(hc:X.cl.get 1350=none)(V:Nm st es run jr jn jg jh c)(W:Lk st run jr j0 j1 jn jg jh xs ys N ρ H)(hn:N.length=n)(n1:n<1000)(hl:xs.length+ys.length<=4000){g:Nat}(hg:n<=g)(hy:∀k,k<n->isIn X (.i 0 (k+1:Nat)) (xs++ys)=some (y k))(J:H.length<=60)(hp:H.Perm<|(((List.range n).filter λ i=> !y i).map λ i=>N.getD i 0)++ρ):
  ∃ab,(ev X<|g+25).S 0 [(321,c)] [mu] st=some (.d6,ab)/\st.nx<=ab.nx/\(∀i,i<st.nx->ab.T.get i=st.T.get i)/\∀i o,ab.T.get i=some o->i<ab.nx:=by
 refine bc (y6 O hc V W hn n1 hl hg hy J hp) λ ab e nx nl=>?_;exact(cC ab (er (m:=g+24) (y:=false) (rP (m:=g+23) (nM (m:=g+22) (gF (m:=g+21) V.loc B) rfl) rfl<|FC (m:=g+22)<|nM (m:=g+21) e rfl) rfl bw bw) nx nl)
theorem CJ(J:X.fn.get 1350=some nF)(hc:X.cl.get 1350=none)(V:Nm st es run jr jn jg jh c)(W:Lk st run jr j0 j1 jn jg jh xs ys N ρ H)(hn:N.length=n)(n1:n<1000)(hl:xs.length+ys.length<=4000){g:Nat}(O:n<=g)(hy:∀k,k<n->isIn X (.i 0 (k+1:Nat)) (xs++ys)=some (y k))(B:H.length<=60)(hp:H.Perm<|(((List.range n).filter λ i=> !y i).map λ i=>N.getD i 0)++ρ):
  ∃ab,(ev X<|g+23).S 0 [(321,c)] (y7::ss) st=(ev X<|g+22).S 0 [(321,c)] ss ab/\st.nx<=ab.nx/\(∀i,i<st.nx->ab.T.get i=st.T.get i)/\∀i o,ab.T.get i=some o->i<ab.nx:=by
 refine bc (y6 J hc V W hn n1 hl O hy B hp) λ ab e nx nl=>?_;exact(cC ab (er (m:=g+22) (y:=false) (nM (m:=g+21) e rfl) rfl bw rfl) nx nl)
end
theorem s9:∀{l:List<|Nat×AO},(l.map (·.1)).Nodup->∀{q:Nat×AO},q∈l->(j5 l).get q.1=some q.2
 |[],_,_,h=>nomatch h|p::l,nd,q,h=>by
  rw[List.map_cons,List.nodup_cons]at nd;unfold j5;rw[TR.bu];rcases bG h with rfl|h
  .rw[if_pos rfl]
  .rw[if_neg λ e=>nd.1<|List.mem_map.mpr ⟨q,h,e⟩];exact s9 nd.2 h
section
variable{Z:Sy}{G:Nat->Addr}{n:Nat}{h:Heap}
theorem lg(z0:Z.σ 0=0):∀{N:List Int}{ns:List Value},F2 ia N ns->br Z G n h (N.map lm) ns
 |_,_,.nil=>.nil|_,_,.cons ⟨t,e⟩ r=>by
  subst e;refine .cons ?_<|lg z0 r;have:=VR.i (Z:=Z) (G:=G) (n:=n) (h:=h) 0 ‹Int› t;rwa [z0,Int.zero_add]at this
theorem tp(z0:Z.σ 0=0):∀{N:List Int}{ns:List Value},br Z G n h (N.map lm) ns->F2 ia N ns
 |[],ns,H=>by
  have:ns=[]:=eU H.1.symm;subst this;exact .nil
 |x::N,ns,H=>by
  refine a5 (br.gf (xs:=N.map lm) (x:=lm x) H) λ u l B r t=>?_;subst B;refine .cons ?_<|tp z0 t;unfold lm at r;cases r;rw[z0,Int.zero_add];exact⟨_,rfl⟩
theorem lb(z0:Z.σ 0=0):∀{S:List El}{xs:List Value},F2 kT S xs->br Z G n h (S.map iN) xs
 |_,_,.nil=>.nil|e::_,_,.cons H r=>by
  refine .cons ?_<|lb z0 r;unfold iN;rcases H with⟨h0,rfl⟩|⟨h0,t,rfl⟩
  .rw[if_pos h0];exact .none
  .rw[if_neg h0];have:=VR.i (Z:=Z) (G:=G) (n:=n) (h:=h) 0 (e.k:Int) t;rwa [z0,Int.zero_add]at this
theorem sb(z0:Z.σ 0=0):∀{S:List El}{xs:List Value},br Z G n h (S.map iN) xs->F2 kT S xs
 |[],xs,H=>by
  have:xs=[]:=eU H.1.symm;subst this;exact .nil
 |e::S,xs,H=>by
  refine a5 (br.gf (xs:=S.map iN) (x:=iN e) H) λ u l B r t=>?_;subst B;refine .cons ?_<|sb z0 t;unfold iN at r;by_cases h0:e.k=0
  .rw[if_pos h0]at r;cases r;exact .inl ⟨h0,rfl⟩
  .rw[if_neg h0]at r;cases r;rw[z0,Int.zero_add];exact .inr ⟨h0,_,rfl⟩
end
def L7(N H:List Int)(S Q:List El):List (Nat×AO):=[(3,.list<|N.map lm),(7,.seg [] 7 907 []),(10,.list<|H.map lm),(123,.seg [] 1 901 []),(11,.list<|S.map iN),(46,.seg [] 2 902 []),(12,.list<|Q.map iN)]
def uK(c:Nat)(m:re)(B:List<|Nat×AO):List (Nat×AO):=cx c++dw++[(44,m.T c),(56,m.K)]++B
theorem yS(c:Nat)(m:re)(N H:List Int)(S Q:List El):((uK c m<|L7 N H S Q).map (·.1)).Nodup:=dm (by kernel_rfl)
theorem uJ(c:Nat)(m:re)(N H:List Int)(S Q:List El):(uK c m<|L7 N H S Q).all (λ q=>Nat.blt q.1 200)=true:=by kernel_rfl
theorem Gh(c:Nat)(m:re)(N H:List Int)(S Q:List El):Lk ⟨j5<|uK c m<|L7 N H S Q,256⟩ 8 4 11 12 3 5 10 (S.map iN) (Q.map iN) N [] H:=by
 have o8:Ob ⟨j5<|uK c m<|L7 N H S Q,256⟩ 8 604 [(55,.r 16),(48,.r 17),(84,.r 18),(29,.r 19),(85,.r 20),(86,.r 21),(87,.r 22),(88,.r 23),(89,.r 24),(90,.r 25),(91,.r 26),(76,.r 27),(92,.r 28),(72,.none),(93,.r 29),(94,.i 908 0),(95,.r 30),(96,.none),(97,.none)]:=
  ⟨14,by kernel_rfl,by kernel_rfl⟩
 refine⟨tT _ _ _ o8 rfl (by kernel_rfl),⟨_,_,_,.r 36,o8,rfl,(by kernel_rfl)⟩,⟨_,_,_,225,[(29,.r 19),(30,.i 3 (-1)),(31,.r 39)],_,o8,rfl,⟨32,by kernel_rfl,by kernel_rfl⟩,rfl,(by kernel_rfl)⟩,by kernel_rfl,by kernel_rfl,by kernel_rfl,by kernel_rfl,by kernel_rfl,by kernel_rfl,λ i o h=>?_⟩;have:=cK<|bV (uJ c m N H S Q) _<|d_ h;show i<256;exact dN this (by simp)
theorem Gg(c:Nat)(m:re)(N H:List Int)(S Q:List El):∃es,Nm ⟨j5<|uK c m<|L7 N H S Q,256⟩ es 8 4 3 5 10 1/\lk 329 es=some (.b true):=
 ⟨[(325,.r 2),(316,.r 3),(122,.r 4),(264,.r 5),(294,.r 6),(326,.r 7),(63,.r 8),(22,.s c),(317,.r 9),(328,.i 1801 0),(329,.b true)],⟨by kernel_rfl,rfl,rfl,rfl,rfl,by kernel_rfl⟩,rfl⟩
theorem ql(A:List El)(N:List Int):((List.range N.length).filter λ i=> !(A.any λ e=>e.k==i+1)).map (λ i=>N.getD i 0)=np A N:=by
 unfold np;congr 1;refine List.filter_congr λ i _=>?_;unfold kg
 induction A with|nil=>rfl|cons a A ih=>rw[List.any_cons,List.all_cons,Bool.not_or,ih];rfl
section
variable{ca:Nat->Obj}{ch:Nat->Nat->FuncData->Prop}{w:World}{G:Nat->Addr}{s:Shared}{b:Nat}{x:Ws}{Q:Flow->Shared->Prop}{E:Value->Shared->Prop}
theorem a7.low{Z:Sy}{n:Nat}(N:a7 Z G n 0 [(321,1)] sc env)(e:Z'.nm=Z.nm)(h0:ay 0=G 0)(h1:ay 1=G 1)(lt:1<n'):a7 Z' ay n' 0 [(321,1)] sc env:=N.Je e h0 (OF (P:=λ _ c=>ay c=G c/\c<n')<|aC ⟨h1,lt⟩ aZ)<|dN Nat.zero_lt_one lt
theorem AM(C:∀σ τ,kV (bD σ τ ca ch) (XW .dL) ig ja)(hc:c=2\/c=3)(N:a7 (bD (λ _=>0) (λ _=>[]) ca ch) G 256 0 [(321,1)] sc env)(hB:aV (dn NM ig ja j sc) [mu] body=true)(r:bt 250 A)(α:Inv ca ch w s.heap (cx c) c G x us Rs)(M:Ma x)(B:Bd x b)(hb:b<=50)(eZ:us.length<=100)(q:∀ay s',Sm s s'->ay 0=G 0->ay 1=G 1->Inv ca ch w s'.heap (cx c) c ay x us Rs->Q .next s'):aD w A (execs body env) Q E s:=by
 refine a8 α.own λ V O L=>?_;have J:=ae B.N hb;have b2:=ae B.H hb;have b3:=ae B.S hb;have b4:=ae B.Q hb;have z0:(zv ca ch 21 22 0 0 0 x V).σ 0=0:=rfl;have le:∀{I:Type}{l:List I}{f:I->AV},l.length<=50->(l.map f).length<=10000:=λ h=>ae (cB<|List.length_map _)<|ae h (by decide);have Sg:iH (zv ca ch 21 22 0 0 0 x V).σ (zv ca ch 21 22 0 0 0 x V).τ (jV 5 (Kd.dL).way):=yQ (by decide) (by decide) (cX (by decide) M.tE) B (by decide) (by decide) rfl<|L.len B (ae hb (by decide)) eZ;refine ib (ry (a:=21) (b':=22) (kk:=0) (u:=0) (tn2:=0) (W:=V) hc (jK c hc) O (ls:=L7 x.N x.H x.S x.Q) rfl<|aC ⟨lg z0 L.N,le J⟩<|aC (w7 rfl rfl)<|aC ⟨lg z0 L.H,le b2⟩<|aC (w7 rfl rfl)<|aC ⟨lb z0 L.X,le b3⟩<|aC (w7 rfl rfl)<|aC ⟨lb z0 L.Y,le b4⟩ aZ) λ S ap R=>?_;refine a8 (Gg c x.m x.N x.H x.S x.Q) λ es V1 Mr=>?_;refine du (GI (X:=XW .dL) (y:=λ k=>(x.S++x.Q).any λ e=>e.k==k+1) Mr (by kernel_rfl) (by kernel_rfl) V1 (Gh c x.m x.N x.H x.S x.Q) rfl (eh J (by decide)) (by rw[List.length_map,List.length_map];exact ae (dK b3 b4) (by decide)) (g:=225) (ae J (by decide))
  (λ k _=>by rw[<-List.map_append];exact pY k<|x.S++x.Q) (ae b2 (by decide)) (by rw[ql,List.append_nil];exact M.hd)) λ ab e nx nl _=>?_
 refine(qg Sg (C _ _) w 250).S e hB r (N.low rfl rfl rfl (by decide:1<256)) S λ ay uG s' a F=>?_;cases F;refine xA (cO S a R ap) λ R' b1=>?_;refine a8 (rA hc (jK c hc) a.sr R' b1 rfl rfl (yS c x.m x.N x.H x.S x.Q) λ q hq=>(nl q.1<|dN (cK<|bV (uJ c x.m x.N x.H x.S x.Q) q hq) (by decide:200<256)).trans<|s9 (yS c x.m x.N x.H x.S x.Q) hq) λ W D O=>?_;exact q ay s' (a.sm S) (a.kp.same 0 (by decide:0<256)) (a.kp.same 1 (by decide:1<256)) ⟨W,O,tp z0<|D _ m0,(av<|D _ m1).trans L.U,tp z0<|D _ m2,(av<|D _ m3).trans L.s,sb z0<|D _ m4,(av<|D _ m5).trans L.q,sb z0<|D _ m6⟩
end
variable{l₂:List Stmt}
theorem rC{M}{Q:Flow->Shared->Prop}{E:Value->Shared->Prop}:∀(l₁:List Stmt)(s:Shared),
  wpAny M A (execs l₁ env) (λ f s'=>match f with|.next=>wpAny M A (execs l₂ env) Q E s'|f=>Q f s') E s->wpAny M A (execs (l₁++l₂) env) Q E s:=by
 have key:∀(B:Ctx),B.In A->∀(l₁:List Stmt)(p:Pos)(s:Shared),Sem.wp M B (execs l₁ env) (λ f _ s'=>match f with|.next=>wpAny M A (execs l₂ env) Q E s'|f=>Q f s') (λ e _ s'=>E e s') p s->
   Sem.wp M B (execs (l₁++l₂) env) (λ f _ s'=>Q f s') (λ e _ s'=>E e s') p s:=by
  intro B J l₁
  induction l₁ with|nil=>intro p s h;exact h B p J|cons st l ih=>
   intro p s h;rw[List.cons_append,execs_cons,Sem.wp_bind'];rw[execs_cons,Sem.wp_bind']at h;refine Sem.wp_mono M B _ (λ f O s' h'=>?_) (λ _ _ _ h'=>h') _ _ h;cases f<;>first|exact ih O s' h'|exact h'
 exactλ l₁ s h B p J=>key B J l₁ p s<|h B p J
noncomputable def CK(n k:Nat):Obj:={cls:=.type "range_iterator",dict:=none,data:=.fields #[rawInt (k:Nat),rawInt<|(n:Int)-k,rawInt 1],slots:= #[]}
def nW(ca:Nat->Obj)(ch:Nat->Nat->FuncData->Prop)(j:Nat)(a:Addr):io:=⟨[(0,.ca j)],λ _=>a,bD (λ _=>0) (λ _=>[]) ca ch⟩
variable{ud uc:List Stmt}
section
variable{ca:Nat->Obj}{ch:Nat->Nat->FuncData->Prop}{w:World}{G:Nat->Addr}{s:Shared}{F:List<|Nat×AO}{b:Nat}{u:Int}{x:Ws}{tok:Tok}{Q:Flow->Shared->Prop}{E:Value->Shared->Prop}
theorem vy(ρ:Given ca ch A env sc G F bv c j bo x.l kl ud)(hB:aV (dn NM ig ja j sc) [mu] uc=true)(α:Inv ca ch w s.heap F c G x (us++[.int u tu]) Rs)(M:Ma x)(B:Bd x b)(hb:b<50)(eZ:us.length<=100)(D:∀k:Kd,(k.fst=true\/x.S≠[]\/x.Q≠[])->gK (XW k) k bv bo c (k.view F (x.m.T c) x.m.K)=some ((k.mem x.m).T c,(k.mem x.m).K))(q:∀aa J s',Sm s s'->aa 0=G 0->aa 1=G 1->Inv ca ch w s'.heap (cx c) c aa J us Rs->Ma J->Bd J (b+1)->Q .next s'):
  aD w A (assign kl env<|.int tn2 tok) (λ _ ci=>aD w A (execs (ud++uc) env) Q E ci) E s:=
 cN (HL (Q:=λ f s'=>match f with|.next=>aD w A (execs uc env) Q E s'|f=>Q f s') (tn2:=tn2) (tok:=tok) ρ α M B (dN hb (by decide)) eZ D λ aa J s' sm e0 e1 I' M' B'=>
  AM (λ σ τ=>ρ.C σ τ _) ρ.hc (ρ.N.low rfl e0 e1 (by decide)) hB ρ.r I' M' B' hb eZ λ ay VH Pk JP TO O=>q ay J _ (sm.trans Pk) (JP.trans e0) (TO.trans e1) O M' B') (λ _ ci h=>rC ud ci h) λ _ _ h=>h
theorem on.add{h:Heap}{a:Addr}(H:on w h Ps)(B:NT<|ca j)(lo:1358<=a)(ha:h.get? a=some (ca j))(J:a∉dj Ps):on w h (nW ca ch j a::Ps):=
 ⟨aC ⟨aC lo aZ,aC ⟨ha,B⟩ aZ⟩ H.ok,List.nodup_cons.mpr ⟨J,H.nd⟩,H.ready⟩
theorem on.drop{h:Heap}{a:Addr}(H:on w h (nW ca ch j a::Ps))(hf:NT<|ca j)(J:∀b o,b≠a->h.get? b=some o->h'.get? b=some o):on w h' Ps:=
 have ok:=H.ok _<|.head _;have ga:h.get? a=some (ca j):=(ok.ob _<|.head _).1;have lo:1358<=a:=ok.lo _<|.head _;have nd:a∉dj Ps:=(jG H.nd).1
 ⟨λ P B=>⟨(H.ok P<|.tail _ B).lo,λ q O=>xE (((H.ok P<|.tail _ B).ob q O).live) λ o e=>((H.ok P<|.tail _ B).ob q O).keeps (a9 _) (λ _ _=>rfl)
   (λ b o ws m hb hc hd=>J b o (λ z=>hf _ _ (sI (ga.symm.trans<|z▸hb)▸hc)<|sI (ga.symm.trans<|z▸hb)▸hd) hb) ((J _ _ (λ z=>nd<|fD.mpr<|⟨P,B,q,O,z⟩) e).trans e.symm)⟩,
  (jG H.nd).2,H.ready.low λ b o hb e=>J b o (λ z=>absurd (z▸hb)<|fe lo) e⟩
theorem lA{P}:(J2 ca ch F c G x V (P::Rs)).Perm (P::J2 ca ch F c G x V Rs):=List.perm_middle (l₁:=fP ca ch F G x.l x.st x.tn (x.m.T c) x.m.K::(ed ca ch G V++mW ca ch x))
theorem Inv.drop{h:Heap}{a:Addr}{i:Nat}(α:Inv ca ch w h F c G x us (nW ca ch i a::Rs))(B:NT<|ca i)(J:∀b o,b≠a->h.get? b=some o->h'.get? b=some o):Inv ca ch w h' F c G x us Rs:=
 a8 α.own λ V O L=>⟨V,(O.perm lA).drop B J,L⟩
theorem Inv.nf{h:Heap}{a:Addr}{i i':Nat}(α:Inv ca ch w h F c G x us (nW ca ch i a::Rs))(J:NT<|ca i)(B:NT<|ca i')(ha:h'.get? a=some (ca i'))(hk:∀b o,b≠a->h.get? b=some o->h'.get? b=some o):
  Inv ca ch w h' F c G x us (nW ca ch i' a::Rs):=
 a8 α.own λ V O L=>
  have O:=O.perm lA
  ⟨V,((O.drop J hk).add B ((O.ok _<|.head _).lo _<|.head _) ha (jG O.nd).1).perm lA.symm,L⟩
theorem om{n k:Nat}:NT (CK n k):=λ _ _ h _=>nomatch (Value.type.inj h:"range_iterator" ="tuple")
theorem Inv.lo{h}{a:Addr}{i:Nat}(α:Inv ca ch w h F c G x us (nW ca ch i a::Rs)):1358<=a:=a8 α.own λ V O _=>((O.perm lA).ok _<|.head _).lo _<|.head _
theorem Inv.at{h:Heap}{a:Addr}{i:Nat}(α:Inv ca ch w h F c G x us (nW ca ch i a::Rs)):h.get? a=some (ca i):=a8 α.own λ V O _=>(((O.perm lA).ok _<|.head _).ob _<|.head _).1
end
section
variable{ca:Nat->Obj}{ch:Nat->Nat->FuncData->Prop}{w:World}{R:Result->Shared->Prop}
def ZB(c k:Nat)(F:List<|Nat×AO)(x:Ws):Prop:=F=cx c\/k=0/\F=fO c/\x.l=26/\x.m=⟨false,false,false,false⟩/\x.S=[]/\x.Q=[]
theorem zh{n:Nat}{a:Addr}(hn:n<8)(n0:0<n)(mI:∀n k,n<10->k<10->ca (1+10*n+k)=CK n k)(C:∀σ τ k,kV (bD σ τ ca ch) (XW k) ig ja)(hc:c=2\/c=3)(hT:gV NM sc (.l 328) kl=true)(wg:aV (dn NM ig ja j sc) m_ ud=true)(we:aV (dn NM ig ja j sc) [mu] uc=true)(r:bt 250 A):∀(d k:Nat),k+d=n->∀{s:Shared}{G:Nat->Addr}{F:List<|Nat×AO}{x:Ws}{us:List Value}{U:List Int},ZB c k F x->a7 (bD (λ _=>0) (λ _=>[]) ca ch) G 256 0 [(321,1)] sc env->
  Inv ca ch w s.heap F c G x us (nW ca ch (1+10*n+k) a::Rs)->Ma x->Bd x k->F2 ia U us->d<=us.length->us.length<=100->
  (∀ay J O s',Sm s s'->ay 0=G 0->ay 1=G 1->Inv ca ch w s'.heap (cx c) c ay J O Rs->Ma J->Bd J n->O.length<=100->R (.ok .next) s')->codeAny (model pw w) A (.forLoop kl (.ref a) (ud++uc) [] env) R s
 |0,k,hk,s,G,F,x,us,U,st,N,α,M,B,hU,hd,eZ,q=>by
  obtain rfl:k=n:=hk;have hF:F=cx c:=st.resolve_right λ z=>by lia
  subst hF;have g:=α.at;rw[mI k k (by exact Nat.lt_of_lt_of_le (by assumption) (by simp)) (by exact Nat.lt_of_lt_of_le (by assumption) (by simp))]at g;refine kH<|wpAny_pyNext_range_end r.handled g (by simp) λ h' hk=>?_;exact wpAny_execs_nil (q G x us _ ⟨⟨h',s.toks,rfl⟩,λ b o hb e=>hk b o (λ z=>Nat.not_le_of_lt hb<|z▸α.lo) e⟩ rfl rfl (α.drop (by rw[mI k k (by exact Nat.lt_of_lt_of_le (by assumption) (by simp)) (by exact Nat.lt_of_lt_of_le (by assumption) (by simp))];exact om) hk) M B eZ)
 |d+1,k,hk,s,G,F,x,us,U,st,N,α,M,B,hU,hd,eZ,q=>by
  have g:=α.at;rw[mI n k (by exact Nat.lt_of_lt_of_le (by assumption) (by simp)) (by lia)]at g;refine kH<|wpAny_pyNext_range_item g (by lia) λ h' hi hs=>?_;have Wm:h'.get? a=some (CK n<|k+1):=by
   have e1:((k:Int)+1)=((k+1:Nat):Int):=by rfl
   have e2:((n:Int)-k-1)=(n:Int)-(k+1:Nat):=by lia
   rw[e1,e2]at hi;exact hi
  have I1:=α.nf (i':=1+10*n+(k+1)) (h':=h') (by rw[mI n k (by exact Nat.lt_of_lt_of_le (by assumption) (by simp)) (by lia)];exact om) (by rw[mI n (k+1) (by exact Nat.lt_of_lt_of_le (by assumption) (by simp)) (by lia)];exact om) (by rw[mI n (k+1) (by exact Nat.lt_of_lt_of_le (by assumption) (by simp)) (by lia)];exact Wm) hs.extBut;clear g hi;obtain⟨O,v,e,Sq⟩:∃O v,us=O++[v]/\∃U' u,F2 ia U' O/\ia u v:=by
   clear α eZ I1;rcases List.eq_nil_or_concat us with z|⟨O,v,z⟩
   .rw[z]at hd;simp at hd
   .rw[List.concat_eq_append]at z;clear hd;subst z;rcases List.eq_nil_or_concat U with z|⟨U',u,z⟩
    .have:=hU.length;rw[z]at this;simp at this
    .rw[List.concat_eq_append]at z;subst z;obtain⟨k',b,e,f,g⟩:=hU.snoc_inv;obtain⟨e1,e2⟩:=List.append_inj' e rfl;clear e;cases e2;subst e1;exact(⟨O,v,rfl,U',u,f,g⟩)
  clear hU;subst e;obtain⟨U',u,Sq,tu,rfl⟩:=Sq;refine pO (Z:=bD (λ _=>0) (λ _=>[]) ca ch) (G:=G) (k:=0) (it:=.mr (k+1) n) (s:={s with heap:=h',toks:=s.toks+1}) ⟨by lia,Wm⟩ ?_;have Yp:O.length<=100:=by simp at eZ;exact de (by assumption)
  have h0:d<=O.length:=by simp at hd;assumption
  have h3:Sm s {s with heap:=h',toks:=s.toks+1}:=⟨⟨h',_,rfl⟩,λ b o hb e=>hs.extBut b o (λ z=>Nat.not_le_of_lt hb<|z▸α.lo) e⟩;have fin:∀aa J s',Sm ({s with heap:=h',toks:=s.toks+1}:Shared) s'->aa 0=G 0->aa 1=G 1->Inv ca ch w s'.heap (cx c) c aa J O (nW ca ch (1+10*n+(k+1)) a::Rs)->Ma J->Bd J (k+1)->
    codeAny (model pw w) A (.forLoop kl (.ref a) (ud++uc) [] env) R s':=λ aa J s' sm e0 e1 I' M' B'=>by
   refine zh hn n0 mI C hc hT wg we r d (k+1) (by lia) (.inl rfl) (N.Je rfl e0 (λ y z hz=>?_) (by exact d5 _)) I' M' B' Sq h0 Yp λ ay h4 W6 VH Pk JP TO mj Vj x' hu=>?_
   .have:=da hz;simp only[List.mem_cons,Prod.mk.injEq,List.not_mem_nil,or_false]at this;clear hz;obtain⟨_,rfl⟩:=this;exact⟨e1,by simp⟩
   .exact q ay h4 W6 _ ((h3.trans sm).trans Pk) (JP.trans e0) (TO.trans e1) mj Vj x' hu
  clear Wm;clear α;rcases st with rfl|⟨rfl,rfl,hl,hm,hS,hQ⟩
  .exact vy (Q:=λ f bM=>match f with|.next|.cont=>codeAny (model pw w) A (.forLoop kl (.ref a) (ud++uc) [] env) R bM|.brk=>R (.ok .next) bM|.ret v=>R (.ok<|.ret v) bM) (bv:=3) (bo:=0) (s:={s with heap:=h',toks:=s.toks+1}) ⟨C,hc,jK c hc,N,hT,wg,r,.inl ⟨rfl,rfl⟩⟩ we I1 M B (by lia) Yp (λ k' _=>TS k' c x.m hc M.pq) λ aa J s' sm e0 e1 I' M' B'=>fin aa J s' sm e0 e1 I' M' B'
  .refine vy (Q:=λ f bM=>match f with|.next|.cont=>codeAny (model pw w) A (.forLoop kl (.ref a) (ud++uc) [] env) R bM|.brk=>R (.ok .next) bM|.ret v=>R (.ok<|.ret v) bM) (bv:=0) (bo:=27) (s:={s with heap:=h',toks:=s.toks+1}) ⟨C,hc,km c hc,N,hT,wg,r,.inr ⟨rfl,by rw[hl];rfl⟩⟩ we I1 M B (by exact d5 _) Yp (λ k' oG=>?_) λ aa J s' sm e0 e1 I' M' B'=>fin aa J s' sm e0 e1 I' M' B';rw[hm];refine MZ k' c hc<|oG.resolve_right ?_;rw[hS,hQ];exactλ h=>nomatch h
end
noncomputable def rX:IE:=.bin .add (.c<|.i 0 5)<|.bin .mod (.bT (.l 326) 61 [])<|.c<|.i 0 3
noncomputable def Pn(u:List AV):List (Nat×AO):=[(3,.seg [] 5 905 []),(7,.seg [] 7 907 u),(10,.seg [] 6 906 []),(123,.seg [] 1 901 []),(11,.seg [] 3 901 []),(46,.seg [] 2 902 []),(12,.seg [] 4 902 [])]
def uM(c:Nat)(m:re)(u:List AV):List (Nat×AO):=fO c++dw++[(44,m.T c),(56,m.K)]++Pn u
theorem uL(c:Nat)(m:re)(u:List AV):((uM c m u).map (·.1)).Nodup:=dm (by kernel_rfl)
theorem Ce:∀(c:Nat)(m:re)(x:Int),x=0\/x=1\/x=2->(ev (bI<|jV 3 x) 250).E 0 [(321,1)] rX ⟨j5<|uM c m [.i 1802 0],256⟩=some (.i 0<|5+x,⟨j5<|uM c m [],256⟩):=λ c m x hx=>by
 rcases hx with rfl|rfl|rfl<;>kernel_rfl
section
variable{ca:Nat->Obj}{ch:Nat->Nat->FuncData->Prop}{σ:Nat->Int}{w:World}{G:Nat->Addr}{s:Shared}{b n:Nat}{u:Int}{x:Ws}{E:Value->Shared->Prop}{h:Heap}
theorem xv{k:Nat}(C:∀σ τ cr,kV (bD σ τ ca ch) (bI cr) ig ja)(hc:c=2\/c=3)(mI:∀n k,n<10->k<10->ca (1+10*n+k)=CK n k)(N:a7 (bD (λ _=>0) (λ _=>[]) ca ch) G 256 0 [(321,1)] sc env)(hg:(match ig rg (.ty 5)with|.no=>false|_=>true)=true)(hl:sc.names.lookup rg=some .globalImplicit)(he:aE NM ig ja k sc rX e'=true)(r:bt 250 A)(α:Inv ca ch w s.heap (fO c) c G x (us++[.int u tu]) Rs)(M:Ma x)(B:Bd x b)(eZ:us.length<=100)(q:∀ay a n s',Sm s s'->ay 0=G 0->ay 1=G 1->5<=n->n<8->Inv ca ch w s'.heap (fO c) c ay x us (nW ca ch (1+10*n+0) a::Rs)->Q (.ref a) s'):
  aD w A (eval (.Call (.Name rg rp) [e'] [] cp) env) (λ u aq=>aD w A (pyIter u) Q E aq) E s:=by
 refine a8 α.own λ V O L=>?_;have u0:0<=u.emod 3:=Int.emod_nonneg _ (by decide);have u3:u.emod 3<3:=Int.emod_lt_of_pos _ (by decide);have hr:u.emod 3=0\/u.emod 3=1\/u.emod 3=2:=by lia
 have L':LV x us (vz V us (V 123) (V 11) (V 46)<|V 12):=⟨L.N,rfl,L.H,L.s,L.X,L.q,L.Y⟩;have Sg:iH (zv ca ch 21 22 0 u 0 x<|vz V us (V 123) (V 11) (V 46)<|V 12).σ (zv ca ch 21 22 0 u 0 x<|vz V us (V 123) (V 11) (V 46)<|V 12).τ (jV 3<|u.emod 3):=yQ (by decide) (by decide) (cX (by decide) M.tE) B (by decide) (by decide) rfl<|L'.len B B.b eZ;have eX:=L.ls.trans L.X.length;have eY:=L.lq.trans L.Y.length;refine ib (ry (a:=21) (b':=22) (kk:=0) (u:=u) (tn2:=0) (W:=vz V us (V 123) (V 11) (V 46)<|V 12) hc (km c hc) O (ls:=Pn [.i 1802 0]) rfl<|aC (w7 rfl rfl)<|aC (Pm (yR<|Int.add_zero u) L.U rfl)<|aC (w7 rfl rfl)<|aC (w7 rfl rfl)<|aC (w7 rfl<|AU rfl eX)<|aC (w7 rfl rfl)<|aC (w7 rfl<|AU rfl eY) aZ) λ S ap R=>?_;refine bc (hr.elim (λ e=>⟨5,e▸rfl,by decide,by decide⟩) λ h=>h.elim (λ e=>⟨6,e▸rfl,by decide,by decide⟩) λ e=>⟨7,e▸rfl,by decide,by decide⟩:∃m:Nat,5+u.emod 3=Int.ofNat m/\5<=m/\m<8) λ m hm w5 w8=>?_;have V_:m<10:=dN w8 (by decide);refine oZ (R:=oW Sg) (qg Sg (C _ _ _) w 250).E (hm▸Ce c x.m (u.emod 3) hr) (ae (d4 w8) (by decide)) hg hl he r (N.low rfl rfl rfl (by decide:1<256)) S λ az aq ci J aK hn It hu ha=>?_;refine xA (cO S J R ap) λ R1 p1=>?_;refine xA (cO J.sr aK R1 p1) λ R2 p2=>?_;have R3:on w ci.heap (nW ca ch (1+10*m+0) aq.heap.objs.size::(mW ca ch x++Rs)):=R2.add (mI m 0 V_ (by decide)▸om) ha (mI m 0 V_ (by decide)▸It.2) λ z=>uI (fD.mp z) λ P hP q hq e=>xE (((R1.ok P hP).ob q hq).live) λ o eo=>by rw[e,hn]at eo;exact nn eo
 have h0:Apart az ⟨j5<|uM c x.m [],256⟩ (mW ca ch x++nW ca ch (1+10*m+0) aq.heap.objs.size::Rs):=λ a' ak=>aC (P:=λ a'=>∀i o,(j5<|uM c x.m []).get i=some o->az i≠a') hu p2 a'<|List.Perm.mem_iff (List.Perm.flatMap_right _ List.perm_middle)|>.mp ak;refine a8 (rA hc (km c hc) aK.sr (R3.perm List.perm_middle.symm) h0 rfl rfl (uL c x.m []) λ q hq=>s9 (uL c x.m []) hq) λ W D O=>?_;exact q az _ m ci ((J.sm S).trans<|aK.sm J.sr) (J.kp.same 0 (by decide:0<256)) (J.kp.same 1 (by decide:1<256)) w5 w8
  ⟨W,O,L'.N.cg<|av<|D _ m0,av<|D _ m1,L'.H.cg<|av<|D _ m2,(av<|D _ m3).trans L.s,L'.X.cg<|av<|D _ m4,(av<|D _ m5).trans L.q,L'.Y.cg<|av<|D _ m6⟩
end
theorem oV:∀{l₁ l₂:List I}{k:List β},aV f (l₁++l₂) k=true->∃B J,k=B++J/\aV f l₁ B=true/\aV f l₂ J=true
 |[],l₂,k,h=>(fc ([]) k rfl rfl h)|a::l₁,l₂,k,h=>by
  refine a5 (gn h) λ b k O h1 h2=>?_;clear h;subst O;refine a5 (oV h2) λ B J O h3 h4=>?_;clear h2;subst O;refine(fc (b::B) J rfl ?_ h4);show(f a b&&aV f l₁ B)=true;rw[h1,h3];rfl
noncomputable def Q5:re:=⟨false,false,false,false⟩
def w0:Ws:=⟨[],[],[],[],[],26,2,0,Q5⟩
theorem IT:Ma w0:=⟨λ _ h=>(nomatch h),.nil,.nil,λ _ h=>(nomatch h),λ _ h=>(nomatch h),λ _ h=>(nomatch h),.nil,.nil,λ _ h=>(nomatch h),.refl _,λ z=>(nomatch z),Int.le_refl _⟩
theorem IU:Bd w0 0:=⟨a9 _,a9 _,a9 _,a9 _,Int.le_refl _,⟨by decide,Int.le_refl _⟩,dp _⟩
variable{U:List Int}
section
variable{ca:Nat->Obj}{ch:Nat->Nat->FuncData->Prop}{w:World}{G:Nat->Addr}{s:Shared}{b:Nat}{u:Int}{x:Ws}{st:Stmt}{Q:Flow->Shared->Prop}{E:Value->Shared->Prop}
theorem My(C:∀σ τ cr,kV (bD σ τ ca ch) (bI cr) ig ja)(hc:c=2\/c=3)(mI:∀n k,n<10->k<10->ca (1+10*n+k)=CK n k)(N:a7 (bD (λ _=>0) (λ _=>[]) ca ch) G 256 0 [(321,1)] sc env)(hS:dn NM ig ja (j+1) sc (.BV (.l 328) rX<|m_++[mu]) st=true)(r:bt 250 A)(α:Inv ca ch w s.heap (fO c) c G w0 (us++[.int u tu]) Rs)(hU:F2 ia U us)(u7:7<=us.length)(eZ:us.length<=100)(q:∀ay B J b s',Sm s s'->ay 0=G 0->ay 1=G 1->b<8->Inv ca ch w s'.heap (cx c) c ay B J Rs->Ma B->Bd B b->J.length<=100->Q .next s'):
  aD w A (exec st env) Q E s:=by
 refine yp hS λ t' it b' o _ g=>eO (aL g)<|i5 (aR g) λ f as ks _ g=>eO (aL g)<|cy (aR g) λ rg _ g=>gJ g λ e' g=>Fe g λ h1 h2 h3 O h5 h6=>?_;have O:=bq O;refine a5 (oV h6) λ ud uc z2 wg we=>?_;clear g h6;clear g;clear g;subst z2;refine wpAny_For (xv C hc mI N (fS h3).2 O h5 r α IT IU eZ λ ay a n s' sm e0 e1 n5 n8 I'=>?_) λ x=>rfl;have N':a7 (bD (λ _=>0) (λ _=>[]) ca ch) ay 256 0 [(321,1)] sc env:=N.low rfl e0 e1 (by decide);refine zh n8 (by lia) mI (λ σ τ k=>C σ τ _) hc h2 wg we r n 0 (by exact Nat.add_comm _ _) (.inr ⟨rfl,rfl,rfl,rfl,rfl,rfl⟩) N' I' IT IU hU (by lia) eZ λ aa B J ci Pk JP TO yL M' B' hu=>?_;exact q aa B J n _ (sm.trans Pk) (JP.trans e0) (TO.trans e1) n8 yL M' B' hu
end
structure Hp where
 ob:Nat->Option (Nat×List (Nat×AV))
 ls:Nat->Option (List AV)
 fx:Nat->Option AO
noncomputable def Hp.so(H:Hp)(a c:Nat)(es:List<|Nat×AV):Hp:=⟨λ i=>if i=a then some (c,es)else H.ob i,H.ls,H.fx⟩
noncomputable def Hp.sl(H:Hp)(j:Nat)(l:List AV):Hp:=⟨H.ob,λ i=>if i=j then some l else H.ls i,H.fx⟩
noncomputable def plain:AO->Bool|.cell _=>true|.ch .. =>true|.ca _=>true|.dict _=>true|_=>false
noncomputable def Ls:AO->Bool|.list _=>false|_=>true
structure Md(D:Nat->Prop)(st:St)(H:Hp):Prop where
 ob:∀a c es,H.ob a=some (c,es)->∃d,D d/\st.T.get a=some (.inst c d)/\st.T.get d=some (.ns es)
 inj:∀a b c c' d,H.ob a≠none->H.ob b≠none->st.T.get a=some (.inst c d)->st.T.get b=some (.inst c' d)->a=b
 ls:∀j l,H.ls j=some l->st.T.get j=some (.list l)
 fx:∀i o,H.fx i=some o->st.T.get i=some o/\plain o=true
 dl:∀d,D d->d<st.nx
 lt:∀i o,st.T.get i=some o->i<st.nx
structure Go(D:Nat->Prop)(st ab:St):Prop where
 nx:st.nx<=ab.nx
 keep:∀i o,st.T.get i=some o->¬D i->Ls o=true->ab.T.get i=some o
variable{H H':Hp}
section
variable{D:Nat->Prop}{a L:Nat}{l:List AV}
theorem Go.trans(x:Go D st ab)(y:Go D ab qK):Go D st qK:=⟨ae x.nx y.nx,λ i o h d n=>y.keep i o (x.keep i o h d n) d n⟩
theorem Md.Ob(M:Md D st H)(h:H.ob a=some (c,es)):Ob st a c es:=let⟨d,_,x,y⟩:=M.ob a c es h;⟨d,x,y⟩
theorem Md.X4(M:Md D st H)(h:D st.nx):False:=Nat.lt_irrefl _<|M.dl _ h
theorem Md.a_(M:Md D st H)(o:AO):Md D (a_ o st) H/\Go D st (a_ o st)/\¬D st.nx:=by
 have g:∀i x,st.T.get i=some x->(fH.V.a_ o st).T.get i=some x:=λ i x h=>by
  rw[bp,if_neg<|Nat.ne_of_lt<|M.lt i x h];exact h
 have n:∀i x,(fH.V.a_ o st).T.get i=some x->i=st.nx\/st.T.get i=some x:=λ i x h=>by
  rw[bp]at h;by_cases hi:i=st.nx
  .exact .inl hi
  .rw[if_neg hi]at h;exact .inr h
 refine⟨⟨λ a c es h=>let⟨d,x,y,z⟩:=M.ob a c es h;(cC d x (g _ _ y)<|g _ _ z),λ a b c c' d ha hb h1 h2=>?_,λ j l h=>g _ _<|M.ls j l h,λ i o h=>⟨g _ _ (M.fx i o h).1,(M.fx i o h).2⟩,λ d h=>fh<|M.dl d h,λ i x h=>?_⟩,⟨bW _,λ i x h _ _=>g i x h⟩,λ h=>M.X4 h⟩
 .refine xE (Option.ne_none_iff_exists'.mp ha) λ z0 J=>?_;obtain⟨c1,e1⟩:=z0;refine xE (Option.ne_none_iff_exists'.mp hb) λ z0 B=>?_;obtain⟨c2,e2⟩:=z0;refine bc (M.ob _ _ _ J) λ d1 _ O _=>?_;refine bc (M.ob _ _ _ B) λ d2 _ x2 _=>?_;have y1:=g _ _ O;rw[h1]at y1;clear J B;cases y1;have y2:=g _ _ x2;rw[h2]at y2;cases y2;exact M.inj a b _ _ _ ha hb O x2
 .rcases n i x h with rfl|h
  .exact bZ _
  .exact fh (M.lt i x h)
theorem Md.names(M:Md D st H)(J:st.T.get L=some (.ns es))(B:¬D L)(f8:List<|Nat×AV):Md D (im L (.ns f8) st) H/\∀i o,st.T.get i=some o->i≠L->(im L (.ns f8) st).T.get i=some o:=by
 have g:∀i x,st.T.get i=some x->i≠L->(im L (.ns f8) st).T.get i=some x:=λ i x h hi=>by
  rw[aW,if_neg hi];exact h
 have O:∀i c d,st.T.get i=some (.inst c d)->i≠L:=λ i c d h z=>by clear B g;subst z;rw[J]at h;cases h
 refine⟨⟨λ a c es h=>let⟨d,x,y,z⟩:=M.ob a c es h;(cC d x (g _ _ y<|O _ _ _ y)<|g _ _ z λ q=>B<|q▸x),λ a b c c' d ha hb h1 h2=>?_,λ j l h=>g _ _ (M.ls j l h) λ z=>?_,λ i o h=>⟨g _ _ (M.fx i o h).1 λ z=>?_,(M.fx i o h).2⟩,M.dl,λ i x h=>?_⟩,g⟩
 .have back:∀i c d,(im L (.ns f8) st).T.get i=some (.inst c d)->st.T.get i=some (.inst c d):=λ i c d h=>by
   rw[aW]at h;by_cases hi:i=L
   .rw[if_pos hi]at h;cases h
   .rw[if_neg hi]at h;exact h
  exact M.inj a b c c' d ha hb (back _ _ _ h1) (back _ _ _ h2)
 .have:=M.ls j l h;clear O;clear B g;subst z;rw[J]at this;cases this
 .refine xA (M.fx i o h) λ x y=>?_;clear h;clear O;clear B g;subst z;rw[J]at x;obtain rfl:=sI x;exact ff y
 .rw[aW]at h;by_cases hi:i=L
  .clear h;clear O;subst hi;exact M.lt _ _ J
  .rw[if_neg hi]at h;exact M.lt _ _ h
theorem Md.gj(M:Md D st H)(h:H.ob a=some (c,es))(he:es.length<=500)(x:Nat)(v:AV):∃ab,gj (.r a) x v st=some ab/\Md D ab (H.so a c<|dL x v es)/\Go D st ab/\ab.nx=st.nx:=by
 refine bc (M.ob a c es h) λ d hd h1 h2=>?_;have back:∀i o,i≠d->st.T.get i=some o->(im d (.ns<|dL x v es) st).T.get i=some o:=λ i o hi h=>by rw[aW,if_neg hi];exact h
 have J:∀i c' B,st.T.get i=some (.inst c' B)->i≠d:=λ i c' B h z=>by clear hd h1 back;subst z;rw[h2]at h;cases h
 refine(iC (im d (.ns<|dL x v es) st) ?_ ⟨λ b c' f8 hb=>?_,λ b b' c1 c2 B hb Bb g1 g2=>?_,λ j l hj=>back _ _ (λ z=>?_)<|M.ls j l hj,λ i o hi=>⟨back _ _ (λ z=>?_) (M.fx i o hi).1,(M.fx i o hi).2⟩,M.dl,λ i o hi=>?_⟩ ⟨a9 _,λ i o hi hn _=>back i o (λ z=>hn<|z▸hd) hi⟩ rfl)
 .exact bE (bE h1 rfl:ownOf st a=some (c,d)) (bE (eI h2)<|r7 (db es▸Nat.ble_eq.mpr he) rfl)
 .by_cases ZO:b=a
  .clear h;subst ZO;have:(H.so b c<|dL x v es).ob b=some (c,dL x v es):=if_pos rfl;rw[this]at hb;refine xA (sP hb) λ z0 z1=>?_;clear hb;subst z0;subst z1;exact(cC d hd (back _ _ (J _ _ _ h1) h1) (by rw[aW,if_pos rfl]))
  .have:(H.so a c<|dL x v es).ob b=H.ob b:=if_neg ZO;rw[this]at hb;refine bc (M.ob b c' f8 hb) λ B x' O z'=>?_;exact(cC B x' (back _ _ (J _ _ _ O) O)<|back _ _ (λ q=>by clear h2 J;clear hd back;subst q;exact ZO<|M.inj b a _ _ _ (by rw[hb];simp) (by rw[h];simp) O h1) z')
 .have nl:∀i c' B,(im d (.ns<|dL x v es) st).T.get i=some (.inst c' B)->st.T.get i=some (.inst c' B):=λ i c' B q=>by
   rw[aW]at q;by_cases hi:i=d
   .rw[if_pos hi]at q;cases q
   .rw[if_neg hi]at q;exact q
  have qW:∀i,(H.so a c<|dL x v es).ob i≠none->H.ob i≠none:=λ i hi=>by
   by_cases e:i=a
   .clear Bb hi;clear h1 hb;subst e;rw[h];simp
   .have:(H.so a c<|dL x v es).ob i=H.ob i:=if_neg e;rwa [this]at hi
  exact M.inj b b' c1 c2 B (qW _ hb) (qW _ Bb) (nl _ _ _ g1) (nl _ _ _ g2)
 .have:=M.ls j l hj;clear J;clear hd h1 back;subst z;rw[h2]at this;cases this
 .refine xA (M.fx i o hi) λ x' O=>?_;clear hi;clear J;subst z;rw[h2]at x';obtain rfl:=sI x';exact ff O
 .rw[aW]at hi;by_cases q:i=d
  .clear hi;subst q;exact M.lt _ _ h2
  .rw[if_neg q]at hi;exact M.lt _ _ hi
theorem Md.Aq(M:Md D st H){l'}(h:st.T.get j=some (.list l)):Md D (im j (.list l') st) (H.sl j l')/\Go D st (im j (.list l') st):=by
 have back:∀i o,Ls o=true->st.T.get i=some o->(im j (.list l') st).T.get i=some o:=λ i o B hi=>by
  rw[aW,if_neg (λ z=>by subst z;rw[h]at hi;obtain rfl:=sI hi;exact ff B)];exact hi
 have nl:∀i o,Ls o=true->(im j (.list l') st).T.get i=some o->st.T.get i=some o:=λ i o B hi=>by
  rw[aW]at hi;by_cases e:i=j
  .rw[if_pos e]at hi;obtain rfl:=sI hi;exact ff B
  .rw[if_neg e]at hi;exact hi
 refine⟨⟨λ a c es ha=>let⟨d,x,y,z⟩:=M.ob a c es ha;(cC d x (back _ _ rfl y)<|back _ _ rfl z),λ a b c c' d ha hb h1 h2=>M.inj a b c c' d ha hb (nl _ _ rfl h1)<|nl _ _ rfl h2,λ i k hi=>?_,λ i o hi=>⟨back _ _ ?_ (M.fx i o hi).1,(M.fx i o hi).2⟩,M.dl,λ i o hi=>?_⟩,⟨a9 _,λ i o hi _ B=>back i o B hi⟩⟩
 .by_cases e:i=j
  .clear h back nl;subst e;have:(H.sl i l').ls i=some l':=if_pos rfl;rw[this]at hi;obtain rfl:=sI hi;rw[aW,if_pos rfl]
  .have:(H.sl j l').ls i=H.ls i:=if_neg e;rw[this]at hi;rw[aW,if_neg e];exact M.ls i k hi
 .have:=(M.fx i o hi).2;clear hi;cases o<;>first|rfl|exact ff this
 .rw[aW]at hi;by_cases e:i=j
  .clear back nl hi;subst e;exact M.lt _ _ h
  .rw[if_neg e]at hi;exact M.lt _ _ hi
theorem Md.pF(M:Md D st H):Md D (fH.V.a_ (.list l) st) (H.sl st.nx l):=by
 refine ib (M.a_<|.list l) λ B ρ _=>?_;refine⟨B.ob,B.inj,λ i k hi=>?_,B.fx,B.dl,B.lt⟩;by_cases e:i=st.nx
 .subst e;have:(H.sl st.nx l).ls st.nx=some l:=if_pos rfl;rw[this]at hi;obtain rfl:=sI hi;rw[bp,if_pos rfl]
 .have:(H.sl st.nx l).ls i=H.ls i:=if_neg e;rw[this]at hi;exact B.ls i k hi
end
variable{rr:Option<|AV×St}{l₀:List Nat}
section
variable{X:Env}{m L x k a g:Nat}{cs:Cs}{u ov:AV}{vs:List AV}{e o l r b:IE}{as:List IE}{aq ci:List IS}{R:Option<|Fl×St}{y:Bool}{cl:Cl}{t:TG}
theorem wF{l r:List I}{a:I}{k:Nat}(h:l.drop k=a::r):l[k]?=some a/\l.drop (k+1)=r:=
 ⟨(List.getElem?_drop (i:=k) (j:=0) (xs:=l)).symm.trans<|congrArg (·[0]?) h,(List.drop_drop (i:=1) (j:=k) (l:=l)).symm.trans<|congrArg (List.drop 1) h⟩
section
variable{a:I}{l k:List I}{f:I->β}
theorem am(h:a∈l):a∈l++k:=aU h
theorem bm(h:a∈k):a∈l++k:=aF h
theorem mf(h:a∈l):f a∈l.map f:=bU h
end
theorem Oj(b k i:Nat):b+k+k*i=b+k*(i+1):=(Nat.add_assoc b k<|k*i).trans<|congrArg (b+ ·)<|Nat.add_comm k<|k*i
theorem t5{i T:Nat}(h:i<T):300+5*i+3<300+5*T:=ba (Nat.add_lt_add_left (by decide:3<5)<|300+5*i)<|Nat.add_le_add_left (Nat.mul_le_mul_left 5 h) 300
theorem Qa{n:Nat}(h:n=1\/n=2):0<n:=h.elim (λ e=>e▸Nat.one_pos) λ e=>e▸Nat.two_pos
theorem vZ{l:List I}{f:I->β}{n:Nat}(h:l.length<=n):(l.map f).length<=n:=ae (cB<|List.length_map _) h
theorem alB{x y r:Option β}(h:x=r)(k:y=none):pt x y=r:=h▸k▸Option.rec (motive:=λ x=>pt x none=x) rfl (λ _=>rfl) x
theorem U0{a b}{r:β}(F:List IS->β):∀{y:Bool},F (bif y then a else b)=r->(match y with|true=>F a|false=>F b)=r
 |true,h=>h|false,h=>h
theorem wX{s}(h1:uX X (ev X m) L cs s st=some (.d6,ac))(h2:(ev X m).S L cs ss ac=R):(ev X<|m+1).S L cs (s::ss) st=R:=
 (d8 h1 h2:bF (uX X (ev X m) L cs s st) (xD (ev X m) L cs ss)=_)
theorem jd(h1:(ev X m).E L cs e st=some (v,ac))(h2:(ev X m).E L cs o ac=some (ov,af))(B:gj ov x v af=some aJ)(J:(ev X m).S L cs ss aJ=R):(ev X<|m+1).S L cs (.n_ o x e::ss) st=R:=
 wX (d8 h1 (d8 h2<|bE B rfl):CI (ev X m) L cs o x e st=_) J
theorem Fu{kv}(h1:(ev X m).E L cs e st=some (v,ac))(h2:(ev X m).E L cs o ac=some (ov,af))(B:(ev X m).E L cs l af=some (kv,aJ))(J:Ap X ov kv v aJ=some bk)(O:(ev X m).S L cs ss bk=R):(ev X<|m+1).S L cs (.mR o l e::ss) st=R:=
 wX (d8 h1 (d8 h2<|d8 B<|bE J rfl):CH X (ev X m) L cs o l e st=_) O
theorem ui{w}(h1:(ev X m).E L cs o st=some (ov,ac))(h2:yh ov x ac=some u)(B:(ev X m).E L cs e ac=some (v,af))(J:E8 op u v=some w)(O:gj ov x w af=some aJ)(h6:(ev X m).S L cs ss aJ=R):(ev X<|m+1).S L cs (.n7 o x op e::ss) st=R:=
 wX (d8 h1 (bE h2<|d8 B<|bE J<|bE O rfl):CG (ev X m) L cs o x op e st=_) h6
theorem ju(h1:(ev X m).E L cs e st=some (v,ac))(h2:(ev X m).S L cs ss ac=R):(ev X<|m+1).S L cs (.ex e::ss) st=R:=
 wX (d8 h1 rfl:bF ((ev X m).E L cs e st) (λ _ st=>some (Fl.d6,st))=_) h2
theorem Fs:(ev X<|m+1).S L cs (.ret none::ss) st=some (.ret .none,st):=rfl
theorem Ft(h1:(ev X m).E L cs e st=some (v,ac))(h2:bf ac.T v=some y)(B:(ev X m).S L cs (bif y then aq else ci) ac=some (.ret u,af)):(ev X<|m+1).S L cs (.iff e aq ci::ss) st=some (.ret u,af):=
 (d8 (d8 h1 (bE h2<|U0 (λ s=>(ev X m).S L cs s ac) B):Xi (ev X m) L cs e aq ci st=_) rfl:bF (uX X (ev X m) L cs (.iff e aq ci) st) (xD (ev X m) L cs ss)=_)
theorem NY{p:Option AV}(h1:(ev X m).E L cs e st=some (v,ac))(h2:lk x cs=some c)(B:ac.T.get c=some (.cell p))(J:(ev X m).S L cs ss (im c (.cell<|some v) ac)=R):(ev X<|m+1).S L cs (.asg (.b9 x) e::ss) st=R:=
 wX (d8 h1 (bE (zY h2 B) rfl):KU (ev X m) L cs (.b9 x) e st=_) J
theorem J'(h:st.T.get j=some (.list xs)):pU st.T (.r j)=some (.lst j 0):=bE (cP h) rfl
theorem yJ(h1:(ev X m).E L cs e st=some (.r j,ac))(h2:ac.T.get j=some (.list xs))(B:(ev X m).F L cs t (.lst j 0) aq ac=some (.d6,af))(J:(ev X m).S L cs ss af=R):(ev X<|m+1).S L cs (.fr t e aq::ss) st=R:=
 wX (d8 h1 (bE (J' h2) B):Xj (ev X m) L cs t e aq st=_) J
theorem At(h2:st.T.get j=some (.list xs))(B:xs[k]?=none):kw st.T (.lst j k)=some none:=
 by
 unfold kw;dsimp only;rw[cP h2,fR,kC,B]
theorem sW(h2:st.T.get j=some (.list xs))(B:xs[k]?=some v):kw st.T (.lst j k)=some (some (v,.lst j<|k+1)):=
 by
 unfold kw;dsimp only;rw[cP h2,fR,kC,B]
theorem qC(h2:st.T.get j=some (.list xs))(B:xs[k]?=none):(ev X<|m+1).F L cs t (.lst j k) aq st=some (.d6,st):=
 (bE (At h2 B) rfl:yV (ev X m) L cs t (.lst j k) aq st=_)
theorem uo(h2:st.T.get j=some (.list xs))(hk:xs[k]?=some v)(B:jq L cs t v st=some ac)(J:(ev X m).S L cs aq ac=some (.d6,af))(O:(ev X m).F L cs t (.lst j<|k+1) aq af=R):(ev X<|m+1).F L cs t (.lst j k) aq st=R:=
 (bE (sW h2 hk) (bE B<|d8 J O):yV (ev X m) L cs t (.lst j k) aq st=_)
theorem Ve(B:(ev X m).W L cs e aq st=some (.d6,af))(J:(ev X m).S L cs ss af=R):(ev X<|m+1).S L cs (.Ga e aq::ss) st=R:=wX B J
theorem W_T(h1:(ev X m).E L cs e st=some (v,ac))(h2:bf ac.T v=some true)(B:(ev X m).S L cs aq ac=some (.d6,af))(J:(ev X m).W L cs e aq af=R):(ev X<|m+1).W L cs e aq st=R:=
 (d8 h1 (bE h2<|d8 B J):yU (ev X m) L cs e aq st=_)
theorem W_F(h1:(ev X m).E L cs e st=some (v,ac))(h2:bf ac.T v=some false):(ev X<|m+1).W L cs e aq st=some (.d6,ac):=
 (d8 h1 (bE h2 rfl):yU (ev X m) L cs e aq st=_)
theorem Fv(h2:st.T.get j=some (.list xs))(B:xs[k]?=none):(ev X<|m+1).K L cs elt t ifs (.lst j k) st=some ([],st):=
 (bE (At h2 B) rfl:stepK (ev X m) L cs elt t ifs (.lst j k) st=_)
theorem Ad(h2:st.T.get j=some (.list xs))(hk:xs[k]?=some v)(B:jq L cs t v st=some ac)(J:rH (ev X m) L cs ifs ac=some (true,af))(O:(ev X m).E L cs elt af=some (u,aJ))(h6:(ev X m).K L cs elt t ifs (.lst j<|k+1) aJ=some (ys,bk)):(ev X<|m+1).K L cs elt t ifs (.lst j k) st=some (u::ys,bk):=
 (bE (sW h2 hk) (bE B<|d8 J<|d8 O<|d8 h6 rfl):stepK (ev X m) L cs elt t ifs (.lst j k) st=_)
theorem IG(h2:st.T.get j=some (.list xs))(hk:xs[k]?=some v)(B:jq L cs t v st=some ac)(J:rH (ev X m) L cs ifs ac=some (false,af))(O:(ev X m).K L cs elt t ifs (.lst j<|k+1) af=some (ys,bk)):(ev X<|m+1).K L cs elt t ifs (.lst j k) st=some (ys,bk):=
 (bE (sW h2 hk) (bE B<|d8 J O):stepK (ev X m) L cs elt t ifs (.lst j k) st=_)
theorem DU(B:o7 it=none)(h1:(ev X m).E L cs it st=some (.r j,ac))(h2:ac.T.get j=some (.list xs)):Jp (ev X m) L cs it st=some (.lst j 0,ac):=by
 unfold Jp;rw[B];exact d8 h1<|bE (J' h2) rfl
theorem je(h1:(ev X m).E L cs e st=some (.r j,ac))(h2:Ob ac j C es)(J:lk x es=none)(B:(bd (X.cl.get C) λ cl=>lk x cl.meths)=some fa)(h6:(ev X m).Es L cs as ac=some (vs,af))(h7:(ev X m).C fa (.r j::vs) [] af=rr):(ev X<|m+1).E L cs (.bT e x as) st=rr:=
 a8 (cY B) λ cl O h5=>a8 h2 λ d g1 g2=>(d8 h1 (bE g1 (alB (bE (eI g2) (by show(match lk x es with|some f=>_|none=>_)=_;rw[J];exact bE O<|bE h5<|d8 h6 h7):zf X (ev X m) L cs (.r j) C d x as ac=rr) rfl):Ds X (ev X m) L cs (.r j) j x as ac=rr):mQ X (ev X m) L cs e x as st=rr)
theorem Oc(h1:(ev X m).E L cs e st=some (.r j,ac))(h2:Ob ac j C es)(B:lk x es=some (.r k))(J:X.an x=true)(O:(ev X m).Es L cs as ac=some (vs,af)){q:Nat}(h7:af.T.get k=some (.ch fa cs' c q))(h8:af.T.get c=some (.ca q))(h9:(ev X m).C fa vs cs' af=rr):(ev X<|m+1).E L cs (.bT e x as) st=rr:=
 a8 h2 λ d g1 g2=>(d8 h1 (bE g1 (alB (bE (eI g2) (by show(match lk x es with|some f=>_|none=>_)=_;rw[B];exact r7 J<|d8 O (bE h7 (bE h8<|bE rfl<|r7 (Nat.beq_refl q) h9):Pb (ev X m) k vs af=rr)):zf X (ev X m) L cs (.r j) C d x as ac=rr) rfl):Ds X (ev X m) L cs (.r j) j x as ac=rr):mQ X (ev X m) L cs e x as st=rr)
theorem qF(h1:(ev X m).E L cs e st=some (.r j,ac))(h2:ac.T.get j=some (.list xs))(B:X.bn x=100)(J:(ev X m).Es L cs as ac=some ([v],af))(O:af.T.get j=some (.list ys))(h8:ys.length+1<=4000):(ev X<|m+1).E L cs (.bT e x as) st=some (.none,im j (.list<|ys++[v]) af):=
 (d8 h1 (bE h2 (U8 rfl<|xg<|r7 rfl<|d8 J<|(congrArg (Ha j · [v] af) B).trans<|bE O<|xg<|r7 rfl (bE (r7 (db ys▸Nat.ble_eq.mpr h8) (hG ys [v]▸rfl):Fd [v] (.list ys)=some (.list<|ys++[v])) rfl:zg j (.list ys) [v] af=_)):Ds X (ev X m) L cs (.r j) j x as ac=_):mQ X (ev X m) L cs e x as st=_)
theorem uq{z:Int}(h1:(ev X m).E L cs e st=some (.r j,ac))(h2:ac.T.get j=some (.dict []))(B:X.bn x=102)(J:(ev X m).Es L cs as ac=some ([.i k z,v],af))(O:af.T.get j=some (.dict [])):(ev X<|m+1).E L cs (.bT e x as) st=some (v,af):=
 (d8 h1 (bE h2 (d8 J (B▸bE O rfl:OC X j (X.bn x) [.i k z,v] af=_):bF ((ev X m).Es L cs as ac) (λ as st=>OC X j (X.bn x) as st)=_):Ds X (ev X m) L cs (.r j) j x as ac=_):mQ X (ev X m) L cs e x as st=_)
theorem gR{q:Nat}(h1:(ev X<|m+2).E L cs e st=some (v,ac))(h2:zp X ac.T v (.g C)=some y):(ev X<|m+4).E L cs (.call (.cJ g<|.bi 1) [e,.cJ q<|.g C]) st=some (.b y,ac):=
 (d8 rfl (d8 (aP h1 rfl) (U8 rfl (xg (bE (U8 rfl h2) rfl:NJ X [v,.g C] ac=some (.b y,ac))):mi X 1 [v,.g C] ac=_)):zN X (ev X<|m+3) L cs (.cJ g<|.bi 1) [e,.cJ q<|.g C] st=_)
theorem x_{l:List Nat}(h:Ob st a c es)(h1:lk C X.sub=some l₀)(h2:lk c X.sub=some l):zp X st.T (.r a) (.g C)=some (l.any<|Nat.beq C):=
 a8 h λ d g1 g2=>(bE h1 (bE g1 (bE rfl<|bE g2<|bE rfl<|bE h2 rfl):UT X st.T (.r a) C=_):zp X st.T (.r a) (.g C)=_)
theorem N_(h1:(ev X m).E L cs e st=some (.r j,ac))(h2:(ev X m).E L cs o ac=some (.i 0 0,ac))(B:ac.T.get j=some (.list xs)):(ev X<|m+1).E L cs (.oR e (some o) none) st=some (.r ac.nx,a_ (.list xs) ac):=
 (d8 h1 (d8 (d8 h2 rfl:bF ((ev X m).E L cs o ac) (λ v st=>some (some v,st))=_)<|d8 rfl (bE (cP B) (bE (a:=xs) rfl rfl):xq (.r j) (some<|.i 0 0) none ac=_)):Ib (ev X m) L cs e (some o) none st=_)
theorem N9(h1:(ev X m).E L cs e st=some (.r j,ac))(h2:(ev X m).E L cs o ac=some (.i 0 0,ac))(B:ac.T.get j=some (.list xs)):(ev X<|m+1).E L cs (.oR e none<|some o) st=some (.r ac.nx,a_ (.list []) ac):=
 (d8 h1 (d8 rfl<|d8 (d8 h2 rfl:bF ((ev X m).E L cs o ac) (λ v st=>some (some v,st))=_) (bE (cP B) (bE (a:=[]) rfl rfl):xq (.r j) none (some<|.i 0 0) ac=_)):Ib (ev X m) L cs e none (some o) st=_)
end
structure Fr(D:Nat->Prop)(aH:St)(L:Nat)(es cl:List<|Nat×AV)(H:Hp)(st:St):Prop where
 md:Md D st H
 go:Go D aH st
 loc:st.T.get L=some (.ns es)
 nD:¬D L
 out:aH.T.get L=none
 b9:∀p∈cl,st.T.get p.1=some (.cell<|some p.2)/\¬D p.1
variable{cl f8:List<|Nat×AV}
section
variable{D:Nat->Prop}{X:Env}{a L x m:Nat}{l:List AV}{cs:Cs}
theorem Md.at{L:Nat}(M:Md D st H)(hL:st.T.get L=some (.ns es))(O:¬D L)(nx:ac.nx=st.nx)(g:∀i,i≠L->ac.T.get i=st.T.get i)(J:ac.T.get L=some (.ns f8)):Md D ac H:=by
 refine xA (M.names hL O f8) λ B _=>?_;have e:∀i,(im L (.ns f8) st).T.get i=ac.T.get i:=λ i=>by
  rw[aW];by_cases h:i=L
  .rw[if_pos h,h,J]
  .rw[if_neg h,g i h]
 refine⟨λ a c es h=>?_,λ a b c c' d ha hb h1 h2=>B.inj a b c c' d ha hb ((e _).trans h1)<|(e _).trans h2,λ j l h=>(e _).symm.trans<|B.ls j l h,λ i o h=>⟨(e _).symm.trans (B.fx i o h).1,(B.fx i o h).2⟩,λ d h=>by rw[nx];exact B.dl d h,λ i o h=>by rw[nx];exact B.lt i o<|(e _).trans h⟩;refine bc (B.ob a c es h) λ d x y z=>?_;exact(cC d x ((e _).symm.trans y)<|(e _).symm.trans z)
theorem dB{m:Nat}{f:Fn}(M:Md D st H)(hf:X.fn.get fa=some f)(hc:f.cells=[])(hz:FM f.ps (fill f.ps f.dv as)=some bs):
  ∃ac,Fr D st st.nx (PB [] bs) [] H ac/\(ev X<|m+1).C fa as cs st=bF ((ev X m).S st.nx cs f.body ac) kc:=by
 refine ib (M.a_<|.ns []) λ O B nD=>?_;have J:(a_ (.ns []) st).T.get st.nx=some (.ns []):=by rw[bp,if_pos rfl]
 refine du (JW (cs:=cs) bs (st:=a_ (.ns []) st) (L:=st.nx) J) λ ac a b c d=>?_;refine⟨ac,⟨O.at J nD b d c,⟨by rw[b];exact B.nx,λ i o h h1 h2=>?_⟩,c,nD,(by cases e:st.T.get st.nx with|none=>rfl|some o=>exact absurd (M.lt _ _ e)<|Nat.lt_irrefl _),λ p hp=>(nomatch hp)⟩,Fk hf hz (by rw[hc];rfl) (by rw[hc];exact a)⟩;rw[d i<|Nat.ne_of_lt<|M.lt i o h];exact B.keep i o h h1 h2
theorem Fr.asg(F:Fr D aH L es cl H st)(f8:List<|Nat×AV):Fr D aH L f8 cl H (im L (.ns f8) st):=by
 refine xA (F.md.names F.loc F.nD f8) λ M g=>?_;refine⟨M,⟨F.go.nx,λ i o h h1 h2=>?_⟩,by rw[aW,if_pos rfl],F.nD,F.out,λ p hp=>⟨?_,(F.b9 p hp).2⟩⟩
 .by_cases e:i=L
  .clear M g;subst e;rw[F.out]at h;exact nn h
  .exact g i o (F.go.keep i o h h1 h2) e
 .refine g _ _ (F.b9 p hp).1 λ z=>?_;have:=(F.b9 p hp).1;rw[z,F.loc]at this;cases this
theorem Fr.kX(F:Fr D aH L es cl H st)(M:Md D ab H')(ρ:Go D st ab):Fr D aH L es cl H' ab:=
 ⟨M,F.go.trans ρ,ρ.keep _ _ F.loc F.nD rfl,F.nD,F.out,λ p hp=>⟨ρ.keep _ _ (F.b9 p hp).1 (F.b9 p hp).2 rfl,(F.b9 p hp).2⟩⟩
theorem Fr.gj(F:Fr D aH L es cl H st){as:List<|Nat×AV}(h:H.ob a=some (c,as))(B:as.length<=500)(x:Nat)(v:AV):∃ab,gj (.r a) x v st=some ab/\Fr D aH L es cl (H.so a c<|dL x v as) ab/\ab.nx=st.nx:=
 let⟨ab,e,M,ρ,n⟩:=F.md.gj h B x v
 (cC ab e (F.kX M ρ) n)
theorem Fr.a_(F:Fr D aH L es cl H st)(o:AO):Fr D aH L es cl H (a_ o st):=
 let⟨M,ρ,_⟩:=F.md.a_ o
 F.kX M ρ
theorem Fr.pF(F:Fr D aH L es cl H st)(l:List AV):Fr D aH L es cl (H.sl st.nx l) (fH.V.a_ (.list l) st):=F.kX F.md.pF (F.md.a_<|.list l).2.1
theorem Fr.Aq(F:Fr D aH L es cl H st)(h:H.ls j=some l)(l':List AV):Fr D aH L es cl (H.sl j l') (im j (.list l') st):=
 let⟨M,ρ⟩:=F.md.Aq (l':=l') (F.md.ls j l h)
 F.kX M ρ
theorem Fr.E(F:Fr D aH L es cl H st)(h:lk x es=some v):(ev X<|m+1).E L cs (.l x) st=some (v,st):=gF F.loc h
theorem Fr.Ob{l'}(F:Fr D aH L es cl H st)(h:H.ob a=some (c,l')):Ob st a c l':=F.md.Ob h
end
noncomputable def WL:List (Nat×AV):=[(55,.r 16),(253,.r 6),(254,.r 40),(255,.r 41)]
structure Cn(H:Hp)(z:Nat)(zs:List AV):Prop where
 jU:H.ob 17=some (1106,WL)
 JT:∃v,H.ob 16=some (225,[(29,.r 19),(30,v),(31,.r z)])
 lz:H.ls z=some zs
 cl:H.fx 6=some (.ch 9999 [(321,1)] 13 0)
 co:H.fx 13=some (.ca 0)
 ce:H.fx 1=some (.cell<|some<|.r 10)
 Ii:H.fx 40=some (.dict [])
 Ig:H.fx 41=some (.dict [])
variable{zs:List AV}
section
variable{D:Nat->Prop}{a L x m z:Nat}{l:List AV}{cs:Cs}
theorem cF:(H.so a c es).ob a=some (c,es):=if_pos rfl
theorem dh(h:x≠a):(H.so a c es).ob x=H.ob x:=if_neg h
theorem dD:(H.sl j l).ls j=some l:=if_pos rfl
theorem di(h:x≠j):(H.sl j l).ls x=H.ls x:=if_neg h
theorem Cn.so(K:Cn H z zs)(h1:17≠a)(h2:16≠a)(c:Nat)(es:List<|Nat×AV):Cn (H.so a c es) z zs:=
 ⟨(dh h1).trans K.jU,let⟨v,e⟩:=K.JT;⟨v,(dh h2).trans e⟩,K.lz,K.cl,K.co,K.ce,K.Ii,K.Ig⟩
theorem Cn.sl(K:Cn H z zs)(h:z≠j)(l:List AV):Cn (H.sl j l) z zs:=⟨K.jU,K.JT,(di h).trans K.lz,K.cl,K.co,K.ce,K.Ii,K.Ig⟩
theorem Cn.I4(K:Cn H z zs)(l:List AV):Cn (H.sl z l) z l:=⟨K.jU,K.JT,dD,K.cl,K.co,K.ce,K.Ii,K.Ig⟩
theorem o9{s:Option<|Fl×St}{C:Option<|AV×St}(e:C=bF s kc)(h:s=some (.d6,st)):C=some (.none,st):=e.trans<|d8 h rfl
theorem nS{s:Option<|Fl×St}{C:Option<|AV×St}(e:C=bF s kc)(h:s=some (.ret v,st)):C=some (v,st):=e.trans<|d8 h rfl
theorem oI(h:Ob st a c es)(e:lk x es=some v):yh (.r a) x st=some v:=
 a8 h λ d h1 h2=>bE (bE h1 rfl:ownOf st a=some (c,d))<|bE (eI h2) e
theorem bj:lk x (dL x v es)=some v:=by rw[cw];exact if_pos rfl
theorem tA(M:Md D st H)(K:Cn H z zs)(ha:H.ob a=some (c,es))(h7:lk 7 es=some (.i 0 1))(yf:17≠a)(xe:16≠a)(he:es.length<=500)(hz:zs.length+1<=4000)(m:Nat):
  ∃ab,(ev (bI cr)<|m+12).C 1042 [.r 17,.r a] [] st=some (.none,ab)/\Md D ab ((H.so a c<|dL 7 (.i 0 0) es).sl z<|zs++[.r a])/\Go D st ab:=by
 refine a8 (dB (X:=bI cr) (m:=m+11) (cs:=[]) (fa:=1042) (f:=Ez) (as:=[.r 17,.r a]) (bs:=[(5,.r 17),(64,.r a)]) M (by kernel_rfl) rfl rfl) λ ac F e=>?_;refine bc (F.gj ha he 7<|.i 0 0) λ af O F2 _=>?_;have B:=K.so yf xe c<|dL 7 (.i 0 0) es;refine xE B.JT λ v30 lO=>?_;have J:=F2.Aq B.lz<|zs++[.r a];refine(cC _ ?_ J.md J.go);exact o9 e (ui (m:=m+10) (F.E rfl) (oI (F.Ob ha) h7) rfl rfl O (er (m:=m+9) (y:=true) (dZ (m:=m+8) (bR (F2.E rfl) (F2.Ob cF) bj) rfl rfl) rfl
   (ju (m:=m+8) (qF (m:=m+7) (bR (m:=m+6) (bR (m:=m+5) (F2.E rfl) (F2.Ob B.jU) rfl) (F2.Ob lO) rfl) (F2.md.ls _ _ B.lz) (by kernel_rfl) (aP (m:=m+6) (F2.E rfl) bz) (F2.md.ls _ _ B.lz) hz) bw) bw))
theorem Hl(M:Md D st H)(K:Cn H z zs)(ha:H.ob a=some (c,es))(J:lk 7 es=some (.i 0 2))(yf:17≠a)(xe:16≠a)(O:es.length<=500)(m:Nat):
  ∃ab,(ev (bI cr)<|m+12).C 1042 [.r 17,.r a] [] st=some (.none,ab)/\Md D ab (H.so a c<|dL 7 (.i 0 1) es)/\Go D st ab:=by
 refine a8 (dB (X:=bI cr) (m:=m+11) (cs:=[]) (fa:=1042) (f:=Ez) (as:=[.r 17,.r a]) (bs:=[(5,.r 17),(64,.r a)]) M (by kernel_rfl) rfl rfl) λ ac F e=>?_;refine bc (F.gj ha O 7<|.i 0 1) λ af B F2 _=>?_;refine(cC _ ?_ F2.md F2.go);exact o9 e<|ui (m:=m+10) (F.E rfl) (oI (F.Ob ha) J) rfl rfl B<|er (m:=m+9) (y:=false) (dZ (m:=m+8) (bR (F2.E rfl) (F2.Ob cF) bj) rfl rfl) rfl bw bw
end
section
variable{X:Env}{m L:Nat}{cs:Cs}{e a b t:IE}{es:List IE}{y:Bool}{r:Option<|AV×St}
theorem FF(h1:(ev X m).E L cs e st=some (v,ac))(h2:bf ac.T v=some false):(ev X<|m+1).E L cs (.and (e::b::es)) st=some (v,ac):=by
 show bF ((ev X m).E L cs e st) (λ v st=>bd (bf st.T v) λ x=>match x with|true=>(ev X m).E L cs (.and (b::es)) st|false=>some (v,st))=_;rw[h1,cz,h2,fR]
theorem J9(h1:(ev X m).E L cs t st=some (v,ac))(h2:bf ac.T v=some y)(B:(ev X m).E L cs (bif y then a else b) ac=r):(ev X<|m+1).E L cs (.ite t a b) st=r:=by
 show bF ((ev X m).E L cs t st) (λ v st=>bd (bf st.T v) λ x=>match x with|true=>(ev X m).E L cs a st|false=>(ev X m).E L cs b st)=_;rw[h1,cz,h2,fR];clear h2;cases y<;>exact B
end
section
variable{D:Nat->Prop}{a L x m z:Nat}{l:List AV}{cs:Cs}
theorem q7:(H.so a c es).so a c f8=H.so a c f8:=by
 unfold Hp.so;congr 1;funext i;by_cases h:i=a
 .rw[if_pos h,if_pos h]
 .rw[if_neg h,if_neg h];exact if_neg h
theorem wm(M:Md D st H)(ha:H.ob a=some (c,es))(B:lk 7 es=some (.i 0 0))(J:lk 8 es=some .none)(m:Nat):∃ab,(ev (bI cr)<|m+12).C 1096 [.r 17,.r a] [] st=some (.none,ab)/\Md D ab H/\Go D st ab:=by
 refine a8 (dB (X:=bI cr) (m:=m+11) (cs:=[]) (fa:=1096) (f:=Ey) (as:=[.r 17,.r a]) (bs:=[(5,.r 17),(64,.r a)]) M (by kernel_rfl) rfl rfl) λ ac F e=>?_;refine(cC _ ?_ F.md F.go);exact nS e<|Ft (m:=m+10) (y:=true) (rP (m:=m+9) (dZ (m:=m+8) (y:=false) (bR (F.E rfl) (F.Ob ha) B) rfl rfl) rfl<|J8 (m:=m+8) (dZ (m:=m+7) (y:=true) (bR (F.E rfl) (F.Ob ha) J) rfl rfl) rfl) rfl Fs
theorem HE(M:Md D st H)(K:Cn H z zs)(ha:H.ob a=some (c,es))(J:lk 6 es=some v){hs:List AV}(hh:H.ls 10=some hs)(hl:hs.length+1<=4000)(m:Nat):∃ab,(ev (bI cr)<|m+8).C 9999 [.r a] [(321,1)] st=some (.none,ab)/\Md D ab (H.sl 10<|hs++[v])/\Go D st ab:=by
 refine a8 (dB (X:=bI cr) (m:=m+7) (cs:=[(321,1)]) (fa:=9999) (f:=wq) (as:=[.r a]) (bs:=[(64,.r a)]) M (by kernel_rfl) rfl rfl) λ ac F e=>?_;have B:=F.Aq hh<|hs++[v];refine(cC _ ?_ B.md B.go);exact o9 e<|ju (m:=m+6) (qF (m:=m+5) (jl (m:=m+4) rfl (F.md.fx _ _ K.ce).1) (F.md.ls _ _ hh) (by kernel_rfl) (aP (m:=m+4) (bR (m:=m+3) (F.E rfl) (F.Ob ha) J) bz) (F.md.ls _ _ hh) hl) bw
theorem qd(M:Md D st H)(K:Cn H z zs)(ha:H.ob a=some (c,es))(h6:lk 6 es=some v)(h7:lk 7 es=some (.i 0 0)){k:Nat}(h8:lk 8 es=some (.s k))(BU:lk 10 es=some (.b false)){hs:List AV}(hh:H.ls 10=some hs)(hl:hs.length+1<=4000)(yf:17≠a)(xe:16≠a)(he:es.length<=8)(Yw:(dL 10 (.b true) es).length<=500)(Yv:(dL 7 (.i 0 1)<|dL 10 (.b true) es).length<=500)(F3:z≠10)(m:Nat):
  ∃ab,(ev (bI cr)<|m+20).C 1096 [.r 17,.r a] [] st=some (.none,ab)/\Md D ab ((H.so a c<|dL 7 (.i 0 0)<|dL 7 (.i 0 1)<|dL 10 (.b true) es).sl 10<|hs++[v])/\Go D st ab:=by
 refine a8 (dB (X:=bI cr) (m:=m+19) (cs:=[]) (fa:=1096) (f:=Ey) (as:=[.r 17,.r a]) (bs:=[(5,.r 17),(64,.r a)]) M (by kernel_rfl) rfl rfl) λ ac F e=>?_;refine bc (F.gj ha (by exact ae (by assumption) (by simp)) 10<|.b true) λ af e2 F2 _=>?_;refine bc (F2.gj cF Yw 7<|.i 0 1) λ aJ e3 B _=>?_;rw[q7]at B;have J:=K.so yf xe c<|dL 7 (.i 0 1)<|dL 10 (.b true) es;refine bc (HE (cr:=cr) (v:=v) B.md J cF (by rw[cw,cw];assumption) hh hl<|m+6) λ bk e4 M4 G4=>?_;have O:=B.kX M4 G4;refine bc (O.gj (cF (H:=H)) Yv 7<|.i 0 0) λ fb e5 F5 _=>?_;have eq5:(((H.so a c<|dL 7 (.i 0 1)<|dL 10 (.b true) es).sl 10<|hs++[v]).so a c<|dL 7 (.i 0 0)<|dL 7 (.i 0 1)<|dL 10 (.b true) es)=(H.so a c<|dL 7 (.i 0 0)<|dL 7 (.i 0 1)<|dL 10 (.b true) es).sl 10 (hs++[v]):=
  congrArg (λ q:Hp=>q.sl 10<|hs++[v]) (q7 (H:=H) (a:=a) (c:=c) (es:=dL 7 (.i 0 1)<|dL 10 (.b true) es) (f8:=dL 7 (.i 0 0)<|dL 7 (.i 0 1)<|dL 10 (.b true) es))
 rw[eq5]at F5;refine(cC fb ?_ F5.md F5.go);exact o9 e (er (m:=m+18) (y:=false) (rP (m:=m+17) (dZ (m:=m+16) (y:=false) (bR (F.E rfl) (F.Ob ha) h7) rfl rfl) rfl (rP (m:=m+16) (dZ (m:=m+15) (y:=false) (bR (F.E rfl) (F.Ob ha) h8) rfl rfl) rfl
   (rP (m:=m+15) (bR (m:=m+14) (F.E rfl) (F.Ob ha) BU) rfl<|FC (m:=m+14)<|dZ (m:=m+13) (y:=false) (bR (F.E rfl) (F.Ob K.jU) rfl) rfl rfl))) rfl bw
   (jd (m:=m+17) rfl (F.E rfl) e2 (ui (m:=m+16) (F2.E rfl) (oI (F2.Ob cF) (by rw[cw];assumption)) rfl rfl e3 (ju (m:=m+15) (Oc (m:=m+14) (B.E rfl) (B.Ob J.jU) rfl (by kernel_rfl) (aP (m:=m+13) (B.E rfl) bz) (B.md.fx _ _ J.cl).1 (B.md.fx _ _ J.co).1 e4)
    (ui (m:=m+14) (O.E rfl) (oI (O.Ob<|cF (H:=H)) bj) rfl rfl e5 bw)))))
theorem Hx(h:Ob st a 66 es)(h1:lk C jy=some l₀):zp (bI cr) st.T (.r a) (.g C)=some ([66,45].any (Nat.beq C)):=x_ h h1 rfl
theorem DZ(h:Ob st a 85 es)(h1:lk C jy=some l₀):zp (bI cr) st.T (.r a) (.g C)=some ([85,45].any (Nat.beq C)):=x_ h h1 rfl
theorem xX(M:Md D st H)(ha:H.ob a=some (66,es))(J:lk 14 es=some .none)(m:Nat):∃ab,(ev (bI cr)<|m+12).C 997 [.r a] [] st=some (.none,ab)/\Md D ab H/\Go D st ab:=by
 refine a8 (dB (X:=bI cr) (m:=m+11) (cs:=[]) (fa:=997) (f:=MD) (as:=[.r a]) (bs:=[(64,.r a)]) M (by kernel_rfl) rfl rfl) λ ac F e=>?_;have F2:=F.asg [(64,.r a),(245,.none)];have B:=F2.asg [(64,.r a),(245,.none)];refine(cC _ ?_ B.md B.go);exact nS e (gD (m:=m+10) (v:=.none) rfl F.loc (er (m:=m+9) (y:=true) (gR (m:=m+5) (F2.E rfl)<|Hx (F2.Ob ha) rfl) rfl (gD (m:=m+8) (bR (m:=m+7) (F2.E rfl) (F2.Ob ha) J) F2.loc bw)
   (jH (m:=m+8)<|J9 (m:=m+7) (y:=false) (gR (m:=m+3) (v:=.none) (y:=false) (B.E rfl) (by kernel_rfl)) rfl rfl)))
theorem xY(M:Md D st H)(ha:H.ob a=some (85,es))(J:lk 16 es=some .none)(m:Nat):∃ab,(ev (bI cr)<|m+14).C 997 [.r a] [] st=some (.none,ab)/\Md D ab H/\Go D st ab:=by
 refine a8 (dB (X:=bI cr) (m:=m+13) (cs:=[]) (fa:=997) (f:=MD) (as:=[.r a]) (bs:=[(64,.r a)]) M (by kernel_rfl) rfl rfl) λ ac F e=>?_;have F2:=F.asg [(64,.r a),(245,.none)];have B:=F2.asg [(64,.r a),(245,.none)];refine(cC _ ?_ B.md B.go);exact nS e (gD (m:=m+12) (v:=.none) rfl F.loc (er (m:=m+11) (y:=false) (gR (m:=m+7) (F2.E rfl)<|DZ (F2.Ob ha) rfl) rfl
   (er (m:=m+10) (y:=true) (J8 (m:=m+9) (gR (m:=m+5) (F2.E rfl)<|DZ (F2.Ob ha) rfl) rfl) rfl (gD (m:=m+9) (bR (m:=m+8) (F2.E rfl) (F2.Ob ha) J) F2.loc bw) bw)
   (jH (m:=m+10)<|J9 (m:=m+9) (y:=false) (gR (m:=m+5) (v:=.none) (y:=false) (B.E rfl) (by kernel_rfl)) rfl rfl)))
end
noncomputable def AE:AV->Bool|.none=>false|_=>true
noncomputable def Jn:List IE:=[.cmp .gI (.l 197)<|.c .none]
section
variable{D:Nat->Prop}{X:Env}{a L x m z:Nat}{l:List AV}{cs:Cs}
theorem Md.cell(M:Md D st H){p q:Option AV}(hc:st.T.get c=some (.cell p))(hx:H.fx c=none):Md D (im c (.cell q) st) H/\∀i o,st.T.get i=some o->i≠c->(im c (.cell q) st).T.get i=some o:=by
 have g:∀i o,st.T.get i=some o->i≠c->(im c (.cell q) st).T.get i=some o:=λ i o h hi=>by rw[aW,if_neg hi];exact h
 have ne:∀{i o},st.T.get i=some o->(∀r,o≠.cell r)->i≠c:=λ{i o} h B z=>by clear hx g;subst z;rw[hc]at h;obtain rfl:=sI h;exact B _ rfl
 have back:∀i o,(im c (.cell q) st).T.get i=some o->(∀r,o≠.cell r)->st.T.get i=some o:=λ i o h B=>by
  rw[aW]at h;by_cases e:i=c
  .rw[if_pos e]at h;obtain rfl:=sI h;exact absurd rfl (B _)
  .rw[if_neg e]at h;exact h
 refine⟨⟨λ a c' es h=>let⟨d,x,y,w⟩:=M.ob a c' es h;(cC d x (g _ _ y<|ne y nofun)<|g _ _ w<|ne w nofun),λ a b c1 c2 d ha hb h1 h2=>M.inj a b c1 c2 d ha hb (back _ _ h1 nofun)<|back _ _ h2 nofun,λ j l h=>g _ _ (M.ls j l h)<|ne (M.ls j l h) nofun,λ i o h=>⟨g _ _ (M.fx i o h).1 (λ z=>by rw[z,hx]at h;exact nn h),(M.fx i o h).2⟩,M.dl,λ i o h=>?_⟩,g⟩;rw[aW]at h;by_cases e:i=c
 .clear ne back h;clear hx g;subst e;exact M.lt _ _ hc
 .rw[if_neg e]at h;exact M.lt _ _ h
theorem Md.fresh(M:Md D st H)(h:st.nx<=c):H.fx c=none/\st.T.get c=none:=by
 have:st.T.get c=none:=by
  cases e:st.T.get c with|none=>rfl|some o=>exact absurd (M.lt _ _ e) (by lia)
 refine⟨?_,this⟩;cases e:H.fx c with|none=>rfl|some o=>rw[(M.fx _ _ e).1]at this;exact ns this
theorem Md.drop(M:Md D st H)(J:st.T.get L=some (.ns es))(B:¬D L):Md D (bK L st) H/\∀i o,st.T.get i=some o->i≠L->(bK L st).T.get i=some o:=by
 have e:∀i,(bK L st).T.get i=if i=L then none else st.T.get i:=λ i=>TR.fW ..
 have g:∀i o,st.T.get i=some o->i≠L->(bK L st).T.get i=some o:=λ i o h hi=>by rw[e,if_neg hi];exact h
 have back:∀i o,(bK L st).T.get i=some o->st.T.get i=some o:=λ i o h=>by
  rw[e]at h;by_cases q:i=L
  .rw[if_pos q]at h;exact nn h
  .rw[if_neg q]at h;exact h
 have ne:∀{i o},st.T.get i=some o->(∀r,o≠.ns r)->i≠L:=λ{i o} h O z=>by clear B e g back;subst z;rw[J]at h;obtain rfl:=sI h;exact O _ rfl
 refine⟨⟨λ a c es h=>let⟨d,x,y,w⟩:=M.ob a c es h;(cC d x (g _ _ y<|ne y nofun)<|g _ _ w λ q=>B<|q▸x),λ a b c1 c2 d ha hb h1 h2=>M.inj a b c1 c2 d ha hb (back _ _ h1)<|back _ _ h2,λ j l h=>g _ _ (M.ls j l h)<|ne (M.ls j l h) nofun,λ i o h=>⟨g _ _ (M.fx i o h).1 (ne (M.fx i o h).1 λ r z=>by have:=(M.fx i o h).2;rw[z]at this;exact ff this),(M.fx i o h).2⟩,M.dl,λ i o h=>M.lt _ _<|back _ _ h⟩,g⟩
theorem JX(M:Md D st H):Fr D st st.nx [] [] H (a_ (.ns []) st):=
 let⟨J,B,nD⟩:=M.a_ (.ns [])
 ⟨J,B,by rw[bp,if_pos rfl],nD,(M.fresh<|a9 _).2,λ p hp=>(nomatch hp)⟩
theorem wL{t}(h1:Jp (ev X m) L cs it st=some (RL,ab))(B:(fr.all λ x=>(lk x cs).isSome)=true)(M:Md D ab H)(h2:(ev X m).K ab.nx (cs.filter λ p=>fr.any<|Nat.beq p.1) elt t ifs RL (a_ (.ns []) ab)=some (ys,ac))(F:Fr D ab ab.nx es [] H ac)(hl:ys.length<=4000):
  ∃af,(ev X<|m+1).E L cs (.comp elt t it ifs fr) st=some (.r<|af.nx-1,af)/\Md D af (H.sl (af.nx-1) ys)/\Go D ab af/\ab.nx<af.nx:=by
 refine xA (F.md.drop F.loc F.nD) λ M2 g=>?_;refine(iC (a_ (.list ys)<|bK ab.nx ac) ?_ M2.pF ⟨de F.go.nx,λ i o h d n=>?_⟩<|Nat.lt_succ_of_le F.go.nx)
 .exact(d8 h1 (r7 B<|d8 h2 (bE (eI F.loc) (r7 (db ys▸Nat.ble_eq.mpr hl) rfl):zJ ab.nx ys ac=_)):rG (ev X m) L cs elt t it ifs fr st=_)
 .have:(bK ab.nx ac).T.get i=some o:=g i o (F.go.keep i o h d n) λ z=>by subst z;exact absurd (M.lt _ _ h) (Nat.lt_irrefl _)
  exact(M2.a_<|.list ys).2.1.keep i o this d n
theorem DJ{m:Nat}{y:Bool}(F:Fr D aH L (dL 197 v es) [] H st)(h:Im X .gI v .none st=some y):rH (ev X<|m+2) L [] Jn st=some (y,st):=
 (d8 (dZ (m:=m+1) (F.E bj) rfl h) rfl:bF ((ev X<|m+2).E L [] (.cmp .gI (.l 197)<|.c .none) st) (λ v st=>bd (bf st.T v) λ y=>some (y,st))=_)
theorem Fw:∀(ys:List AV)(k g:Nat){st:St}{es:List<|Nat×AV},xs.drop k=ys->ys.length<=g->(∀v∈ys,v=.none\/∃a,v=.r a)->Fr D aH L es [] H st->H.ls j=some xs->
  ∃ab f8,(ev X<|g+8).K L [] (.l 197) (.l 197) Jn (.lst j k) st=some (ys.filter AE,ab)/\Fr D aH L f8 [] H ab
 |[],k,g,st,es,J,O,hv,F,B=>by
  exact⟨st,es,Fv (m:=g+7) (F.md.ls _ _ B)<|List.getElem?_eq_none<|List.drop_eq_nil_iff.mp J,F⟩
 |v::ys,k,0,st,es,J,O,hv,F,B=>absurd O (kR _)|v::ys,k,g+1,st,es,J,O,hv,F,B=>by
  refine xA (wF J) λ hx hd=>?_;have F2:=F.asg<|dL 197 v es;refine b8 (Fw ys (k+1) g hd (kS O) (λ u hu=>hv u<|.tail _ hu) F2 B) λ ab f8 e F'=>?_;refine⟨ab,f8,?_,F'⟩;clear hd J;rcases hv v (.head _)with rfl|⟨a,rfl⟩
  .exact IG (m:=g+8) (F.md.ls _ _ B) hx (eS F.loc) (DJ (m:=g+6) F2 (by rfl)) e
  .exact Ad (m:=g+8) (F.md.ls _ _ B) hx (eS F.loc) (DJ (m:=g+6) F2 (by rfl)) (F2.E (m:=g+7) bj) e
theorem Kh{m:Nat}(M:Md D st H):∃ac,Fr D st st.nx [] [(st.nx+1,v)] H ac/\(ev (bI cr)<|m+1).C 1002 [v] [] st=bF ((ev (bI cr) m).S st.nx [(64,st.nx+1)] JM.body ac) kc:=by
 refine ib (M.a_<|.ns []) λ M1 B Dh=>?_;refine ib (M1.a_<|.cell none) λ M2 J GZ=>?_;have O:(a_ (.cell none)<|a_ (.ns []) st).T.get (st.nx+1)=some (.cell none):=by rw[bp];exact if_pos rfl
 refine xA (M2.cell (q:=some v) O (M.fresh<|bW _).1) λ M3 g=>?_;refine⟨im (st.nx+1) (.cell<|some v)<|a_ (.cell none)<|a_ (.ns []) st,⟨M3,⟨ae B.nx J.nx,λ i o h d n=>?_⟩,?_,Dh,(M.fresh<|a9 _).2,λ p hp=>?_⟩,Fk (by kernel_rfl) rfl rfl<|zV rfl rfl O rfl⟩
 .exact g i o ((B.trans J).keep i o h d n) λ z=>by subst z;exact absurd (M.lt _ _ h) (fe<|bW _)
 .refine g _ _ ?_ (dI<|bZ _);rw[bp,if_neg (show st.nx≠(a_ (.ns []) st).nx from Nat.ne_of_lt (Nat.lt_succ_self _)),bp,if_pos rfl]
 .rcases bG hp with rfl|hp
  .exact⟨by rw[aW,if_pos rfl],GZ⟩
  .cases hp
end
structure Hp.le(H H':Hp):Prop where
 ob:∀a x,H.ob a=some x->H'.ob a=some x
 ls:∀a x,H.ls a=some x->H'.ls a=some x
 fx:∀a x,H.fx a=some x->H'.fx a=some x
noncomputable def Sf:IE:=.comp (.l 197) (.l 197) (.bin .add (.l 249)<|.list [.call (.cJ 250<|.g 997) [.b9 64]]) [.cmp .gI (.l 197)<|.c .none] []
variable{items:List AV}{OU:Hp}
section
variable{D:Nat->Prop}{X:Env}{a k L x m z n:Nat}{l:List AV}{cs:Cs}
theorem Md.mono(M:Md D st H')(le:H.le H'):Md D st H:=
 ⟨λ a c es h=>M.ob a c es<|le.ob _ _ h,λ a b c c' d ha hb h1 h2=>M.inj a b c c' d (λ e=>by
   refine xE (Option.ne_none_iff_exists'.mp ha) λ x hx=>?_;rw[le.ob _ _ hx]at e;exact ns e) (λ e=>by
   refine xE (Option.ne_none_iff_exists'.mp hb) λ x hx=>?_;rw[le.ob _ _ hx]at e;exact ns e) h1 h2,λ j l h=>M.ls j l<|le.ls _ _ h,λ i o h=>M.fx i o<|le.fx _ _ h,M.dl,M.lt⟩
theorem lG(h:H.ls j=none)(l:List AV):H.le (H.sl j l):=⟨λ _ _ h=>h,λ a x hx=>by rw[di λ z=>by rw[z,h]at hx;exact nn hx];exact hx,λ _ _ h=>h⟩
theorem tC(le:H.le H')(l:List AV):(H.sl j l).le (H'.sl j l):=⟨le.ob,λ a x hx=>by
 by_cases e:a=j
 .subst e;rw[dD]at hx⊢;exact hx
 .rw[di e]at hx⊢;exact le.ls _ _ hx,le.fx⟩
theorem Hp.le.trans(a:H.le H')(b:H'.le OU):H.le OU:=⟨λ x y h=>b.ob _ _<|a.ob _ _ h,λ x y h=>b.ls _ _<|a.ls _ _ h,λ x y h=>b.fx _ _<|a.fx _ _ h⟩
theorem Md.jZ(M:Md D st H)(h:st.nx<=j):H.ls j=none:=by
 cases e:H.ls j with|none=>rfl|some l=>exact absurd (M.lt _ _<|M.ls _ _ e)<|fe h
theorem IM{e}(h1:(ev X<|m+1).E L cs e st=some (v,ab)):(ev X<|m+3).E L cs (.list [e]) st=some (.r ab.nx,a_ (.list [v]) ab):=
 (d8 (aP (m:=m+1) h1 bz) rfl:Op (ev X<|m+2) L cs [e] st=_)
theorem wc(F:Fr D aH L [(249,.r n)] [(c,.r a)] H st)(O:H.ls n=some items)(hv:∀v∈items,v=.none\/∃a,v=.r a)(kept:∀m,∃ab,(ev (bI cr)<|m+14).C 997 [.r a] [] st=some (.none,ab)/\Md D ab H/\Go D st ab)(hl:items.length<=3000){g:Nat}(hg:items.length<=g):
  ∃ab k,(ev (bI cr)<|g+30).S L [(64,c)] [.ret<|some Sf] st=some (.ret<|.r k,ab)/\Md D ab (H.sl k<|items.filter AE)/\Go D aH ab/\st.nx<=k:=by
 refine bc (kept<|g+10) λ af e2 M2 G2=>?_;have F2:=F.kX M2 G2;have J:=F2.pF [.none];have B:=J.pF<|items++[.none];have ij:af.nx≠n:=λ z=>by
  have:=M2.jZ (j:=n)<|cB z;rw[this]at O;exact nn O
 have hi:(ev (bI cr)<|g+28).E L [(64,c)] (.bin .add (.l 249)<|.list [.call (.cJ 250<|.g 997) [.b9 64]]) st=some (.r (a_ (.list [.none]) af).nx,a_ (.list<|items++[.none])<|a_ (.list [.none]) af):=by
  refine FG (m:=g+27) (F.E rfl) (IM (m:=g+24)<|dF (m:=g+23) (by kernel_rfl) rfl (aP (m:=g+23) (jl (m:=g+22) (c:=c) rfl (F.b9 _<|.head _).1) bz) ?_) (J.md.ls _ _<|(di ij.symm).trans O) (J.md.ls _ _ dD)<|eh hl (by decide);exact e2
 have hK:Jp (ev (bI cr)<|g+28) L [(64,c)] (.bin .add (.l 249)<|.list [.call (.cJ 250<|.g 997) [.b9 64]]) st=some (.lst (a_ (.list [.none]) af).nx 0,a_ (.list<|items++[.none])<|a_ (.list [.none]) af):=DU rfl hi<|B.md.ls _ _ dD;refine b8 (Fw (X:=bI cr) (xs:=items++[.none]) (items++[.none]) 0 (g+20) rfl (ae (cB List.length_append)<|dK hg (by decide)) (λ v F4=>by
  rcases dc F4 with h|h
  .exact hv v h
  .rw[List.mem_singleton.mp h];exact .inl rfl) (JX B.md) dD) λ fb h0 e5 F5=>?_
 have ff:(items++[AV.none]).filter AE=items.filter AE:=by rw[List.filter_append];exact List.append_nil _
 rw[ff]at e5;refine du (wL (cs:=[(64,c)]) (fr:=[]) hK rfl B.md e5 F5<|ae (List.length_filter_le _ _)<|ae hl (by decide)) λ hn e6 M6 G6 F3=>?_;have n4:st.nx<=(a_ (.list<|items++[.none])<|a_ (.list [.none]) af).nx:=de<|de G2.nx;have l1:H.le ((H.sl af.nx [AV.none]).sl (a_ (.list [AV.none]) af).nx<|items++[AV.none]):=by
  have hx:=F2.md.jZ<|a9 af.nx;have hy:=F2.md.jZ<|bW af.nx;exact(lG hx _).trans (lG ((di (show(a_ (.list [AV.none]) af).nx≠af.nx from Nat.succ_ne_self _)).trans hy) _)
 exact(fN hn (hn.nx-1) (jH (m:=g+29) e6) (M6.mono<|tC l1 _) (B.go.trans G6)<|ae n4<|Nat.le_pred_of_lt F3)
theorem Mg(M:Md D st H)(ha:H.ob a=some (66,es))(J:lk 14 es=some .none)(m:Nat):∃ab k,(ev (bI cr)<|m+40).C 1002 [.r a] [] st=some (.r k,ab)/\Md D ab (H.sl k [])/\Go D st ab/\st.nx<=k:=by
 refine a8 (Kh (cr:=cr) (m:=m+39) (v:=.r a) M) λ ac F e=>?_;have F2:=(F.pF []).asg [(249,.r ac.nx)];have n1:st.nx<=ac.nx:=F.go.nx;refine cI (wc (cr:=cr) F2 dD (λ v h=>nomatch h) (λ m=>xX (cr:=cr) F2.md ha J<|m+2) (dp _) (g:=m+8)<|dp _) λ aJ k e3 M3 B O=>?_;refine(fN aJ k ?_ (M3.mono<|tC (lG (F.md.jZ<|a9 _) _) _) B<|ae n1<|ae (bW _) O);have ic:∀q,(ev (bI cr)<|m+q+1).E st.nx [(64,st.nx+1)] (.b9 64) ac=some (.r a,ac):=λ q=>jl rfl (F.b9 _<|.head _).1;have ii:∀{C l₀ y}(q x:Nat),lk C jy=some l₀->[66,45].any (Nat.beq C)=y->(ev (bI cr)<|m+q+4).E st.nx [(64,st.nx+1)] (.call (.cJ 42<|.bi 1) [.b9 64,.cJ x<|.g C]) ac=some (.b y,ac):=λ q x h1 h2=>by
  rw[<-h2];exact gR (m:=m+q) (ic<|q+1) (Hx (F.Ob ha) h1)
 exact nS e (er (m:=m+38) (y:=false) (ii 34 36 rfl rfl) rfl (er (m:=m+37) (y:=false) (ii 33 246 rfl rfl) rfl (er (m:=m+36) (y:=false) (ii 32 38 rfl rfl) rfl (er (m:=m+35) (y:=false) (ii 31 40 rfl rfl) rfl
   (gD (m:=m+34) (rQ (m:=m+32)) (F.pF []).loc bw) bw) bw) bw) e3)
theorem Mh(M:Md D st H)(ha:H.ob a=some (85,es))(xe:lk 16 es=some .none)(B:lk 15 es=some (.r n))(hn:H.ls n=some items)(hv:∀v∈items,v=.none\/∃a,v=.r a)(hl:items.length<=3000){g:Nat}(hg:items.length<=g):
  ∃ab k,(ev (bI cr)<|g+40).C 1002 [.r a] [] st=some (.r k,ab)/\Md D ab (H.sl k<|items.filter AE)/\Go D st ab/\st.nx<=k:=by
 refine a8 (Kh (cr:=cr) (m:=g+39) (v:=.r a) M) λ ac F e=>?_;have F2:=F.asg [(249,.r n)];refine cI (wc (cr:=cr) F2 hn hv (λ m=>xY (cr:=cr) F2.md ha xe m) hl (g:=g+8)<|ae hg<|bL g 8) λ aJ k e3 M3 J O=>?_;refine(fN aJ k ?_ M3 J<|ae F.go.nx O);have ic:∀q,(ev (bI cr)<|q+1).E st.nx [(64,st.nx+1)] (.b9 64) ac=some (.r a,ac):=λ q=>jl rfl (F.b9 _<|.head _).1;exact nS e<|er (m:=g+38) (y:=true) (gR (m:=g+34) (ic _)<|DZ (F.Ob ha) rfl) rfl (gD (m:=g+37) (bR (m:=g+36) (ic _) (F.Ob ha) B) F.loc bw) e3
end
noncomputable def jw(n k:Int)(B:AV)(w:Nat)(ds fr:Bool)(v:AV):List (Nat×AV):=[(6,.i 0 n),(7,.i 0 k),(8,B),(9,.r w),(10,.b ds),(11,.b fr),(12,v),(14,.none)]
noncomputable def j9(n k:Int)(B:AV)(w:Nat)(ds fr:Bool)(i:Nat):List (Nat×AV):=[(6,.i 0 n),(7,.i 0 k),(8,B),(9,.r w),(10,.b ds),(11,.b fr),(15,.r i),(16,.none)]
section
variable{D:Nat->Prop}{X:Env}{a k L x m z n q t:Nat}{l:List AV}{u:AV}{cs:Cs}
theorem H6(M:Md D st H)(ha:H.ob a=some (66,es))(J:lk 14 es=some .none)(m:Nat):∃ab,(ev (bI cr)<|m+24).C 1009 [.r a] [] st=some (.none,ab)/\Md D ab H/\Go D st ab:=by
 refine a8 (dB (X:=bI cr) (m:=m+23) (cs:=[]) (fa:=1009) (f:=EA) (as:=[.r a]) (bs:=[(64,.r a)]) M (by kernel_rfl) rfl rfl) λ ac F e=>?_;refine bc (xX (cr:=cr) F.md ha J<|m+7) λ af e2 M2 O=>?_;have F2:=F.kX M2 O;refine bc (xX (cr:=cr) F2.md ha J<|m+7) λ aJ e3 M3 G3=>?_;have B:=F2.kX M3 G3;have ii:∀{C l₀ y}(p x:Nat),lk C jy=some l₀->[66,45].any (Nat.beq C)=y->(ev (bI cr)<|m+p+4).E st.nx [] (.call (.cJ 42<|.bi 1) [.l 64,.cJ x<|.g C]) aJ=some (.b y,aJ):=λ p x h1 h2=>by
  rw[<-h2];exact gR (m:=m+p) (B.E rfl) (Hx (B.Ob ha) h1)
 refine(cC aJ ?_ B.md B.go);exact o9 e (er (m:=m+22) (y:=false) (FF (m:=m+21) (dZ (m:=m+20) (y:=false) (dF (m:=m+18) (by kernel_rfl) rfl (aP (m:=m+18) (F.E rfl) bz) e2) rfl rfl) rfl) rfl
   (er (m:=m+21) (y:=false) (dZ (m:=m+20) (y:=false) (dF (m:=m+18) (by kernel_rfl) rfl (aP (m:=m+18) (F2.E rfl) bz) e3) rfl rfl) rfl bw bw)
   (er (m:=m+21) (y:=false) (ii 17 36 rfl rfl) rfl (er (m:=m+20) (y:=false) (ii 16 246 rfl rfl) rfl (er (m:=m+19) (y:=false) (ii 15 38 rfl rfl) rfl (er (m:=m+18) (y:=false) (ii 14 40 rfl rfl) rfl bw bw) bw) bw) bw))
theorem H7(M:Md D st H)(ha:H.ob a=some (85,es))(O:lk 16 es=some .none)(he:es.length<=500)(m:Nat):∃ab k,(ev (bI cr)<|m+24).C 1009 [.r a] [] st=some (.none,ab)/\Md D ab (H.so a 85<|dL 15 (.r k) es)/\Go D st ab:=by
 refine a8 (dB (X:=bI cr) (m:=m+23) (cs:=[]) (fa:=1009) (f:=EA) (as:=[.r a]) (bs:=[(64,.r a)]) M (by kernel_rfl) rfl rfl) λ ac F e=>?_;refine bc (xY (cr:=cr) F.md ha O<|m+5) λ af e2 M2 G2=>?_;have F2:=F.kX M2 G2;refine bc (xY (cr:=cr) F2.md ha O<|m+5) λ aJ e3 M3 G3=>?_;have B:=F2.kX M3 G3;refine bc ((B.a_<|.list []).gj ha he 15<|.r aJ.nx) λ bk e4 J _=>?_;refine(fc bk _ ?_ J.md J.go);exact o9 e (er (m:=m+22) (y:=false) (FF (m:=m+21) (dZ (m:=m+20) (y:=false) (dF (m:=m+18) (by kernel_rfl) rfl (aP (m:=m+18) (F.E rfl) bz) e2) rfl rfl) rfl) rfl
   (er (m:=m+21) (y:=false) (dZ (m:=m+20) (y:=false) (dF (m:=m+18) (by kernel_rfl) rfl (aP (m:=m+18) (F2.E rfl) bz) e3) rfl rfl) rfl bw bw)
   (er (m:=m+21) (y:=true) (gR (m:=m+17) (B.E rfl)<|DZ (B.Ob ha) rfl) rfl (jd (m:=m+20) rQ ((B.a_<|.list []).E rfl) e4 bw) bw))
theorem Kg{m:Nat}{v1 v2 v3}(M:Md D st H):∃ac,Fr D st st.nx [(5,v1),(12,v3)] [(st.nx+1,v2)] H ac/\(ev (bI cr)<|m+1).C 1061 [v1,v2,v3] [] st=bF ((ev (bI cr) m).S st.nx [(23,st.nx+1)] JJ.body ac) kc:=by
 refine ib (M.a_<|.ns []) λ M1 O J=>?_;refine ib (M1.a_<|.cell none) λ M2 G2 GZ=>?_;have gL:(a_ (.cell none)<|a_ (.ns []) st).T.get st.nx=some (.ns []):=by rw[bp,if_neg (by show st.nx≠st.nx+1;lia),bp,if_pos rfl]
 have gc:(a_ (.cell none)<|a_ (.ns []) st).T.get (st.nx+1)=some (.cell none):=by rw[bp];exact if_pos rfl
 refine xA (M2.names gL J [(5,v1)]) λ M3 g3=>?_;refine xA (M3.cell (q:=some v2) (g3 _ _ gc (by lia)) (M.fresh<|bW _).1) λ M4 g4=>?_;have B:(im (st.nx+1) (.cell<|some v2)<|im st.nx (.ns [(5,v1)])<|a_ (.cell none)<|a_ (.ns []) st).T.get st.nx=some (.ns [(5,v1)]):=g4 _ _ (by rw[aW,if_pos rfl]) (by lia);refine xA (M4.names B J [(5,v1),(12,v3)]) λ M5 g5=>?_;refine⟨_,⟨M5,⟨ae O.nx G2.nx,λ i o h d n=>?_⟩,by rw[aW,if_pos rfl],J,(M.fresh<|a9 _).2,λ p hp=>?_⟩,Fk (by kernel_rfl) rfl rfl<|qx (es:=[]) rfl gL<|zV rfl rfl (g3 _ _ gc (by lia))<|qx (es:=[(5,v1)]) rfl B rfl⟩
 .have hi:=M.lt _ _ h;exact g5 _ _ (g4 _ _ (g3 _ _ ((O.trans G2).keep i o h d n) (by lia)) (by lia)) (by lia)
 .rcases bG hp with rfl|hp
  .exact⟨g5 _ _ (by rw[aW,if_pos rfl]) (by show st.nx+1≠st.nx;lia),GZ⟩
  .cases hp
theorem vn(M:Md D st H)(hv:∀T,zp (bI cr) T v (.g 162)=some false)(m:Nat):∃ab,(ev (bI cr)<|m+12).C 1061 [.r 17,u,v] [] st=some (.none,ab)/\Md D ab H/\Go D st ab:=by
 refine a8 (Kg (cr:=cr) (m:=m+11) (v1:=.r 17) (v2:=u) (v3:=v) M) λ ac F e=>?_;refine(cC ac ?_ F.md F.go);exact nS e<|Ft (m:=m+10) (y:=true) (nM (m:=m+9) (gR (m:=m+5) (F.E rfl)<|hv _) rfl) rfl Fs
theorem Hw(h:Ob st a 162 es):zp (bI cr) st.T (.r a) (.g 162)=some true:=x_ (l:=[162]) (l₀:=[162]) h rfl rfl
theorem o_(M:Md D st H)(K:Cn H z zs)(B:H.ob q=some (162,[(27,.r t),(28,.b false)]))(m:Nat)(go:∀st m,Md D st H->∃ab,(ev (bI cr)<|m+12).C 1042 [.r 17,.r t] [] st=some (.none,ab)/\Md D ab H'/\Go D st ab):∃ab,(ev (bI cr)<|m+20).C 1061 [.r 17,u,.r q] [] st=some (.none,ab)/\Md D ab H'/\Go D st ab:=by
 refine a8 (Kg (cr:=cr) (m:=m+19) (v1:=.r 17) (v2:=u) (v3:=.r q) M) λ ac F e=>?_;refine bc (go ac (m+3) F.md) λ af O M2 J=>?_;have F2:=F.kX M2 J;refine(cC af ?_ F2.md F2.go);exact o9 e (er (m:=m+18) (y:=false) (nM (m:=m+17) (gR (m:=m+13) (F.E rfl)<|Hw<|F.Ob B) rfl) rfl bw
   (er (m:=m+17) (y:=false) (bR (m:=m+16) (F.E rfl) (F.Ob B) rfl) rfl (ju (m:=m+16) (je (m:=m+15) (F.E rfl) (F.Ob K.jU) rfl (by kernel_rfl) (aP (m:=m+14) (bR (m:=m+13) (F.E rfl) (F.Ob B) rfl) bz) O) bw) bw))
end
structure Ev where
 a:Nat
 n:Int
 w:Nat
 v:AV
 k:Nat
abbrev FQ(L:List Ev)(x:Nat):Prop:=∃e∈L,x=e.a
structure o0(P:Nat->Prop)(z:Nat)(H H':Hp):Prop where
 ob:∀x y,¬P x->H.ob x=some y->H'.ob x=some y
 ls:∀i l,i≠z->H.ls i=some l->H'.ls i=some l
 fx:∀i o,H.fx i=some o->H'.fx i=some o
variable{EL:List Ev}
section
variable{D:Nat->Prop}{X:Env}{a k L x m z q t it w:Nat}{n:Int}{l:List AV}{u bl:AV}{cs:Cs}{ds:Bool}{P:Nat->Prop}
theorem o0.refl:o0 P z H H:=⟨λ _ _ _ h=>h,λ _ _ _ h=>h,λ _ _ h=>h⟩
theorem o0.trans(x:o0 P z H H')(y:o0 P z H' OU):o0 P z H OU:=⟨λ a b p h=>y.ob a b p<|x.ob a b p h,λ i l p h=>y.ls i l p<|x.ls i l p h,λ i o h=>y.fx i o<|x.fx i o h⟩
theorem o0.so(h:P a):o0 P z H (H.so a c es):=⟨λ x y p e=>by rw[dh (show x≠a from λ q=>p<|q.symm▸h)];exact e,λ _ _ _ h=>h,λ _ _ h=>h⟩
theorem o0.I4:o0 P z H (H.sl z l):=⟨λ _ _ _ h=>h,λ i l p h=>by rw[di p];exact h,λ _ _ h=>h⟩
theorem o0.le(h:H.le H'):o0 P z H H':=⟨λ _ _ _ e=>h.ob _ _ e,λ _ _ _ e=>h.ls _ _ e,λ _ _ e=>h.fx _ _ e⟩
theorem Cn.out(K:Cn H z zs)(O:o0 P z H H')(h1:¬P 17)(h2:¬P 16)(h:H'.ls z=some l):Cn H' z l:=
 ⟨O.ob _ _ h1 K.jU,let⟨v,e⟩:=K.JT;⟨v,O.ob _ _ h2 e⟩,h,O.fx _ _ K.cl,O.fx _ _ K.co,O.fx _ _ K.ce,O.fx _ _ K.Ii,O.fx _ _ K.Ig⟩
theorem tV(M:Md D st H)(K:Cn H z zs)(ha:H.ob a=some (66,jw n 0 bl w ds false v))(hw:H.ls w=some [])(yf:17≠a)(xe:16≠a)(po:∀(k:Nat)(st:St)(m:Nat),Md D st (H.so a 66<|jw n 0 bl k ds true .none)->∃ab d9,(ev (bI cr)<|m+20).C 1061 [.r 17,.r a,v] [] st=some (.none,ab)/\Md D ab d9/\Go D st ab/\d9.ob a=some (66,jw n 0 bl k ds true .none)/\H'.le d9)(m:Nat):
  ∃ab,(ev (bI cr)<|m+60).C 1103 [.r 17,.r a] [] st=some (.none,ab)/\Md D ab H'/\Go D st ab:=by
 refine a8 (dB (X:=bI cr) (m:=m+59) (cs:=[]) (fa:=1103) (f:=Ex) (as:=[.r 17,.r a]) (bs:=[(5,.r 17),(64,.r a)]) M (by kernel_rfl) rfl rfl) λ ac F e=>?_;refine bc (F.gj ha (by simp[jw]) 11<|.b true) λ af e2 F2 _=>?_;have F2:Fr D st st.nx _ [] (H.so a 66<|jw n 0 bl w ds true v) af:=F2;refine bc ((F2.a_<|.list []).gj cF (by simp[jw]) 9<|.r af.nx) λ aJ e3 B _=>?_;rw[q7]at B;have B:Fr D st st.nx _ [] (H.so a 66<|jw n 0 bl af.nx ds true v) aJ:=B;have F4:=B.asg [(5,.r 17),(64,.r a),(259,v)];refine bc (F4.gj cF (by simp[jw]) 12 .none) λ fb e5 J _=>?_;rw[q7]at J;have J:Fr D st st.nx _ [] (H.so a 66<|jw n 0 bl af.nx ds true .none) fb:=J;refine la (po af.nx fb (m+29) J.md) λ F5 d9 e6 M6 G6 h6 F3=>?_;have ij:=J.kX M6 G6;refine cI (Mg (cr:=cr) ij.md h6 rfl<|m+13) λ jz k e7 M7 G7 _=>?_;have F7:=(ij.kX M7 G7).asg [(5,.r 17),(64,.r a),(259,v),(264,.r k)];refine bc (H6 (cr:=cr) F7.md (a:=a) h6 rfl<|m+28) λ nh e8 M8 G8=>?_;have F8:=F7.kX M8 G8;have O:=K.so yf xe 66<|jw n 0 bl af.nx ds true v;have K5:=K.so yf xe 66<|jw n 0 bl af.nx ds true .none;refine(cC nh ?_ ((F8.md.mono (H:=d9) ?_).mono F3) F8.go)
 .exact o9 e (jd (m:=m+58) rfl (F.E rfl) e2 (yJ (m:=m+57) (bR (m:=m+56) (F2.E rfl) (F2.Ob cF) rfl) (F2.md.ls _ _ hw) (qC (F2.md.ls _ _ hw) rfl) (jd (m:=m+56) rQ ((F2.a_<|.list []).E rfl) e3
    (er (m:=m+55) (y:=true) (gR (m:=m+51) (B.E rfl)<|Hx (B.Ob cF) rfl) rfl
     (ju (m:=m+54) (uq (m:=m+53) (bR (m:=m+52) (B.E rfl) (B.Ob O.jU) rfl) (B.md.fx _ _ O.Ii).1 (by kernel_rfl) (aP (m:=m+52) (bR (m:=m+51) (B.E rfl) (B.Ob cF) rfl)<|aP (m:=m+51) (v:=.none) rfl bz) (B.md.fx _ _ O.Ii).1)
     (ju (m:=m+53) (uq (m:=m+52) (bR (m:=m+51) (B.E rfl) (B.Ob O.jU) rfl) (B.md.fx _ _ O.Ig).1 (by kernel_rfl) (aP (m:=m+51) (bR (m:=m+50) (B.E rfl) (B.Ob cF) rfl)<|aP (m:=m+50) (v:=.none) rfl bz) (B.md.fx _ _ O.Ig).1)
     (gD (m:=m+52) (bR (m:=m+51) (B.E rfl) (B.Ob cF) rfl) B.loc<|jd (m:=m+51) rfl (F4.E rfl) e5<|ju (m:=m+50) (je (m:=m+49) (J.E rfl) (J.Ob K5.jU) rfl (by kernel_rfl) (aP (m:=m+48) (J.E rfl)<|aP (m:=m+47) (J.E rfl) bz) e6) bw)))
     (gD (m:=m+54) (dF (m:=m+52) (by kernel_rfl) rfl (aP (m:=m+52) (ij.E rfl) bz) e7) (ij.kX M7 G7).loc (ju (m:=m+53) (dF (m:=m+51) (by kernel_rfl) rfl (aP (m:=m+51) (F7.E rfl) bz) e8)
      (yJ (m:=m+52) (F8.E rfl) (F8.md.ls _ _ dD) (qC (F8.md.ls _ _ dD) rfl) bw)))))))
 .exact lG (ij.md.jZ (by assumption)) []
def Ev.at(k:Int)(H:Hp)(e:Ev):Prop:=H.ob e.a=some (66,jw e.n k .none e.w false false e.v)
theorem zl:∀(EL:List Ev)(k:Nat){st:St}{H:Hp}{zs:List AV}{es:List<|Nat×AV},items.drop k=EL.map (λ e=>.r e.a)->Fr D aH L es [] H st->lk 5 es=some (.r 17)->H.ls j=some items->Cn H z zs->j≠z->(∀e∈EL,e.at 1 H/\17≠e.a/\16≠e.a)->(EL.map (·.a)).Nodup->zs.length+EL.length<=4000->∀g,EL.length<=g->
  ∃ab f8 H',(ev (bI cr)<|g+20).F L [] (.l 197) (.lst j k) [.ex<|.bT (.l 5) 65 [.l 197]] st=some (.d6,ab)/\Fr D aH L f8 [] H' ab/\Cn H' z (zs++EL.map λ e=>.r e.a)/\(∀e∈EL,e.at 0 H')/\o0 (λ x=>FQ EL x) z H H'
 |[],k,st,H,zs,es,hk,F,h5,hj,K,hz,O,nd,hl,g,B=>by
  refine(iA st es H (qC (F.md.ls _ _ hj)<|List.getElem?_eq_none<|List.drop_eq_nil_iff.mp hk) F (by simpa using K) (λ e h=>(nomatch h))<|.refl)
 |e::EL,k,st,H,zs,es,hk,F,h5,hj,K,hz,O,nd,hl,0,B=>absurd B (kR _)|e::EL,k,st,H,zs,es,hk,F,h5,hj,K,hz,O,nd,hl,g+1,B=>by
  refine xA (wF hk) λ hx hd=>?_;have Zw:zs.length+1+EL.length<=4000:=ae (cB<|Nat.succ_add_eq_add_succ _ _) hl;rw[List.map_cons,List.nodup_cons]at nd;refine ib (O e<|.head _) λ e1 xf lO=>?_;have F2:=F.asg<|dL 197 (.r e.a) es;refine bc (tA (cr:=cr) F2.md K e1 rfl xf lO (by simp[jw]) (ae (bL _ _) Zw)<|g+6) λ aJ e3 M3 G3=>?_;have F3:=F2.kX M3 G3;have K3:Cn ((H.so e.a 66<|jw e.n 0 .none e.w false false e.v).sl z<|zs++[.r e.a]) z (zs++[.r e.a]):=(K.so xf lO _ _).I4 _;refine bA (zl EL (k+1) hd F3 (by rw[cw];assumption) ((di hz).trans hj) K3 hz (λ f J=>⟨(dh (show f.a≠e.a from λ q=>nd.1<|List.mem_map.mpr ⟨f,J,q⟩)).trans (O f<|.tail _ J).1,(O f<|.tail _ J).2⟩) nd.2 (ae (cB<|congrArg (· +EL.length) List.length_append) Zw) g<|kS B) λ ab f8 H' e4 F' K' hg O'=>?_
  .refine(iA ab f8 H' ?_ F' (by rw[List.map_cons,<-List.singleton_append,<-List.append_assoc];exact K') (λ f J=>?_) ?_)
   .exact uo (m:=g+20) (F.md.ls _ _ hj) hx (eS F.loc) (ju (m:=g+19) (je (m:=g+18) (F2.E (by rw[cw];assumption)) (F2.Ob K.jU) rfl (by kernel_rfl) (aP (m:=g+17) (F2.E bj) bz) e3) bw) e4
   .clear hk O hl Zw hx e1 xf lO F2 e3 M3 G3 F3 K3 K';rcases bG J with rfl|J
    .exact O'.ob _ _ (λ⟨g,B,q⟩=>nd.1<|List.mem_map.mpr ⟨g,B,q.symm⟩) cF
    .exact hg f J
   .refine(((o0.so (P:=λ x=>∃f∈e::EL,x=f.a) ⟨e,.head _,rfl⟩).trans .I4).trans ⟨λ x y p h=>O'.ob x y (λ⟨g,B,q⟩=>p ⟨g,.tail _ B,q⟩) h,O'.ls,O'.fx⟩)
theorem Mw(M:Md D st H)(K:Cn H z zs)(ha:H.ob a=some (85,j9 n 0 bl w ds false it))(hw:H.ls w=some [])(hit:H.ls it=some (EL.map λ e=>.r e.a))(yf:17≠a)(xe:16≠a)(O:∀e∈EL,e.at 1 H/\17≠e.a/\16≠e.a/\e.a≠a)(nd:(EL.map (·.a)).Nodup)(hl:zs.length+EL.length<=3000){g:Nat}(hg:EL.length<=g):
  ∃ab H',(ev (bI cr)<|g+60).C 1103 [.r 17,.r a] [] st=some (.none,ab)/\Md D ab H'/\Go D st ab/\Cn H' z (zs++EL.map λ e=>.r e.a)/\(∀e∈EL,e.at 0 H')/\o0 (λ x=>x=a\/FQ EL x) z H H':=by
 refine a8 (dB (X:=bI cr) (m:=g+59) (cs:=[]) (fa:=1103) (f:=Ex) (as:=[.r 17,.r a]) (bs:=[(5,.r 17),(64,.r a)]) M (by kernel_rfl) rfl rfl) λ ac F e=>?_;refine bc (F.gj ha (by simp[j9]) 11<|.b true) λ af e2 F2 _=>?_;have F2:Fr D st st.nx _ [] (H.so a 85<|j9 n 0 bl w ds true it) af:=F2;refine bc ((F2.a_<|.list []).gj cF (by simp[j9]) 9<|.r af.nx) λ aJ e3 B _=>?_;rw[q7]at B;have B:Fr D st st.nx _ [] (H.so a 85<|j9 n 0 bl af.nx ds true it) aJ:=B;refine cI (Mh (cr:=cr) B.md (cF (H:=H)) rfl rfl hit (λ v hv=>by
  refine a8 (eV hv) λ f _ z2=>?_;subst z2;exact .inr ⟨_,rfl⟩) (ae (cB<|List.length_map _)<|ae (Nat.le_add_left _ _) hl) (g:=g+13)<|ae (cB<|List.length_map _)<|ae hg<|bL g 13) λ bk k e4 M4 G4 hk=>?_
 have fn:(EL.map λ e=>AV.r e.a).filter AE=EL.map λ e=>AV.r e.a:=List.filter_eq_self.mpr λ v hv=>by
  refine a8 (eV hv) λ f _ z2=>?_;subst z2;rfl
 rw[fn]at M4;have nk:=B.md.jZ hk;have F4:=(B.kX M4 G4).asg [(5,.r 17),(64,.r a),(264,.r k)];refine a5 (H7 (cr:=cr) F4.md (cF (H:=H)) rfl (by simp[j9])<|g+28) λ fb k' e5 M5 G5=>?_;have J:=F4.kX M5 G5;have eq5:(((H.so a 85<|j9 n 0 bl af.nx ds true it).sl k<|EL.map λ e=>.r e.a).so a 85<|dL 15 (.r k')<|j9 n 0 bl af.nx ds true it)=(H.so a 85<|j9 n 0 bl af.nx ds true k').sl k (EL.map λ e=>.r e.a):=congrArg (λ q:Hp=>q.sl k<|List.map (λ e:Ev=>AV.r e.a) EL)<|q7 (H:=H);rw[eq5]at J;have zk:z≠k:=λ q=>by
  rw[<-q,show(H.so a 85<|j9 n 0 bl af.nx ds true it).ls z=_ from K.lz]at nk;exact ns nk
 refine bA (zl (cr:=cr) (j:=k) (items:=EL.map λ e=>.r e.a) EL 0 rfl J rfl dD ((K.so yf xe 85<|j9 n 0 bl af.nx ds true k').sl zk _) zk.symm (λ f ij=>⟨(dh (O f ij).2.2.2).trans (O f ij).1,(O f ij).2.1,(O f ij).2.2.1⟩) nd (ae hl (by decide)) (g+32)<|ae hg<|bL g 32) λ hE To F3 e6 F6 K6 F5 O6=>?_;refine(iB hE F3 ?_ F6.md F6.go K6 F5 ?_)
 .exact o9 e (jd (m:=g+58) rfl (F.E rfl) e2 (yJ (m:=g+57) (bR (m:=g+56) (F2.E rfl) (F2.Ob cF) rfl) (F2.md.ls _ _ hw) (qC (F2.md.ls _ _ hw) rfl) (jd (m:=g+56) rQ ((F2.a_<|.list []).E rfl) e3
    (er (m:=g+55) (y:=false) (gR (m:=g+51) (B.E rfl)<|DZ (B.Ob cF) rfl) rfl bw
     (gD (m:=g+54) (dF (m:=g+52) (by kernel_rfl) rfl (aP (m:=g+52) (B.E rfl) bz) e4) (B.kX M4 G4).loc (ju (m:=g+53) (dF (m:=g+51) (by kernel_rfl) rfl (aP (m:=g+51) (F4.E rfl) bz) e5)
      (yJ (m:=g+52) (J.E rfl) (J.md.ls _ _ dD) e6 bw)))))))
 .have O3:o0 (λ x=>x=a\/FQ EL x) z H ((H.so a 85<|j9 n 0 bl af.nx ds true k').sl k<|EL.map λ e=>.r e.a):=(o0.so (c:=85) (es:=j9 n 0 bl af.nx ds true k')<|.inl rfl).trans<|.le<|lG (show(H.so a 85<|j9 n 0 bl af.nx ds true k').ls k=none from nk) _;exact O3.trans ⟨λ x y p h=>O6.ob x y (λ⟨g,hg,q⟩=>p<|.inr ⟨g,hg,q⟩) h,O6.ls,O6.fx⟩
end
noncomputable def v6(P:List<|Int×Nat):List (AV×AV):=P.map λ p=>(.i 0 p.1,.r p.2)
noncomputable def cS(P:List<|Int×Nat):List AV:=P.map λ p=>.r p.2
noncomputable def yb(a:Int×Nat):List (Int×Nat)->List (Int×Nat)
 |[]=>[a]|c::l=>if a.1<c.1 then a::c::l else c::yb a l
def u_(l:List<|Int×Nat):List (Int×Nat):=l.foldr yb []
theorem rx(a:Int×Nat):∀l,(yb a l).Perm (a::l)
 |[]=>.refl _|c::l=>by
  unfold yb;split
  .exact .refl _
  .exact((rx a l).cons c).trans (.swap _ _ _)
theorem gi:∀l,(u_ l).Perm l
 |[]=>.refl _|a::l=>(rx a _).trans<|(gi l).cons a
theorem wa(a:Int×Nat):∀l,(yb a l).map (·.1)=insI a.1 (l.map (·.1))
 |[]=>rfl|c::l=>by
  unfold yb;rw[List.map_cons,show insI a.1 (c.1::l.map (·.1))=if a.1<c.1 then a.1::c.1::l.map (·.1)else c.1::insI a.1 (l.map (·.1))from rfl];split
  .rfl
  .rw[List.map_cons,wa a l]
theorem q6:∀l,(u_ l).map (·.1)=sortI (l.map (·.1))
 |[]=>rfl|a::l=>by
  show(yb a<|u_ l).map (·.1)=insI a.1 (sortI<|l.map (·.1));rw[wa,q6 l]
variable{dd:Nat}
section
variable{X:Env}
theorem zH(k:Nat)(a c:Int):jT X (k+1) (.i 0 a) (.i 0 c)=some (decide<|a=c):=by
 show some (wf a c)=_;rw[rs]
theorem EF{a c:Int}(h:a≠c):jT X 8 (.i 0 a) (.i 0 c)=some false:=(zH 7 a c).trans<|congrArg some<|decide_eq_false h
theorem HY{a c:Int}(h:a=c):jT X 8 (.i 0 a) (.i 0 c)=some true:=(zH 7 a c).trans<|congrArg some<|decide_eq_true h
theorem wG{n:Int}:∀{P:List<|Int×Nat},(∀p∈P,p.1≠n)->PP X (.i 0 n) v (v6 P)=some (v6 P++[(.i 0 n,v)])
 |[],_=>rfl|p::P,h=>(bE (EF<|h p m0) (bE (wG λ q B=>h q<|.tail _ B) rfl):bd (jT X 8 (.i 0 p.1)<|.i 0 n) _=_)
theorem zO{p:Int×Nat}:∀{P:List<|Int×Nat},p∈P->(P.map (·.1)).Nodup->TP X (.i 0 p.1) (v6 P)=some (some<|.r p.2)
 |_,.head _,_=>(bE (HY rfl) rfl:bd (jT X 8 (.i 0 p.1)<|.i 0 p.1) _=_)|q::_,.tail _ h,nd=>(bE (EF λ e=>(jG nd).1<|List.mem_map.mpr ⟨p,h,e.symm⟩) (zO h (jG nd).2):bd (jT X 8 (.i 0 q.1)<|.i 0 p.1) _=_)
theorem DH(P:List<|Int×Nat):il X ((v6 P).map (·.1))=some ((sortI<|P.map (·.1)).map lm):=(congrArg (il X) (by simp[v6,lm])).trans<|mq _
theorem GB{R:List<|Int×Nat}{p:Int×Nat}(h:st.T.get dd=some (.dict<|v6 R))(hl:R.length<=500)(B:∀q∈R,q.1≠p.1):Ap X (.r dd) (.i 0 p.1) (.r p.2) st=some (im dd (.dict<|v6<|R++[p]) st):=
 (bE h (bE (r7 (by rw[db];exact Nat.ble_eq.mpr (by simp[v6];exact hl)) (bE (bE rfl ((wG B).trans (by simp[v6])):NE X (.i 0 p.1) (.r p.2) (v6 R)=some (v6<|R++[p])) rfl):KN X (.dict<|v6 R) (.i 0 p.1) (.r p.2)=some (.dict<|v6<|R++[p])) rfl):bd (st.T.get dd) _=_)
theorem HO{P:List<|Int×Nat}{p:Int×Nat}(h:st.T.get dd=some (.dict<|v6 P))(hp:p∈P)(nd:(P.map (·.1)).Nodup):yg X (.r dd) (.i 0 p.1) st=some (.r p.2):=
 (bE h (U8 rfl<|bE (bE rfl (zO hp nd):vX X (.dict<|v6 P) (.i 0 p.1)=some (some<|.r p.2)) rfl):bd (st.T.get dd) _=_)
end
section
variable{D:Nat->Prop}{X:Env}{a k L x m cc:Nat}{cs:Cs}{P:List<|Int×Nat}
theorem Md.obj{o o'}(M:Md D st H)(hc:st.T.get c=some o)(ho:plain o=true)(J:plain o'=true)(hx:H.fx c=none):Md D (im c o' st) H/\∀i o,st.T.get i=some o->i≠c->(im c o' st).T.get i=some o:=by
 have g:∀i q,st.T.get i=some q->i≠c->(im c o' st).T.get i=some q:=λ i q h hi=>by rw[aW,if_neg hi];exact h
 have ne:∀{i q},st.T.get i=some q->plain q=false->i≠c:=λ{i q} h B z=>by clear hx g;subst z;rw[hc]at h;obtain rfl:=sI h;rw[ho]at B;exact tf B
 have back:∀i q,(im c o' st).T.get i=some q->plain q=false->st.T.get i=some q:=λ i q h B=>by
  rw[aW]at h;by_cases e:i=c
  .rw[if_pos e]at h;obtain rfl:=sI h;rw[J]at B;exact tf B
  .rw[if_neg e]at h;exact h
 refine⟨⟨λ a c' es h=>let⟨d,x,y,w⟩:=M.ob a c' es h;(cC d x (g _ _ y<|ne y rfl)<|g _ _ w<|ne w rfl),λ a b c1 c2 d ha hb h1 h2=>M.inj a b c1 c2 d ha hb (back _ _ h1 rfl)<|back _ _ h2 rfl,λ j l h=>g _ _ (M.ls j l h)<|ne (M.ls j l h) rfl,λ i q h=>⟨g _ _ (M.fx i q h).1 (λ z=>by rw[z,hx]at h;exact nn h),(M.fx i q h).2⟩,M.dl,λ i q h=>?_⟩,g⟩;rw[aW]at h;by_cases e:i=c
 .clear ne back h;clear hx g;subst e;exact M.lt _ _ hc
 .rw[if_neg e]at h;exact M.lt _ _ h
theorem Fr.obj{o o'}(F:Fr D aH L es cl H st)(hc:st.T.get c=some o)(ho:plain o=true)(J:plain o'=true)(hx:H.fx c=none)(h0:aH.T.get c=none)(B:∀p∈cl,p.1≠c):Fr D aH L es cl H (im c o' st):=by
 refine xA (F.md.obj hc ho J hx) λ M g=>?_;refine⟨M,⟨F.go.nx,λ i q h d n=>g _ _ (F.go.keep i q h d n) λ z=>by rw[z,h0]at h;exact nn h⟩,g _ _ F.loc λ z=>?_,F.nD,F.out,λ p hp=>⟨g _ _ (F.b9 p hp).1<|B p hp,(F.b9 p hp).2⟩⟩;have:=F.loc;rw[z,hc]at this;obtain rfl:=sI this;exact ff ho
theorem zt{P:List<|Int×Nat}(hj:H.ls j=some (cS P))(nd:(P.map (·.1)).Nodup)(hP:∀p∈P,∃c es,H.ob p.2=some (c,es)/\lk 6 es=some (.i 0 p.1)/\lk 7 es=some (.i 0 0)/\lk 11 es=some (.b false))(hl:P.length<=400)(hx:H.fx dd=none)(h0:aH.T.get dd=none):
  ∀(Q R:List<|Int×Nat){st:St}{es:List<|Nat×AV},P=R++Q->Fr D aH L es [(cc,.r dd)] H st->st.T.get dd=some (.dict<|v6 R)->∀g,Q.length<=g->
   ∃ab f8,(ev (bI cr)<|g+20).F L [(110,cc)] (.l 64) (.lst j R.length) [.iff (.and [.cmp .eq (.dg (.l 64) 7)<|.c<|.i 0 0,.not<|.dg (.l 64) 11]) [.mR (.b9 110) (.dg (.l 64) 6)<|.l 64] []] st=some (.d6,ab)/\Fr D aH L f8 [(cc,.r dd)] H ab/\ab.T.get dd=some (.dict<|v6 P)
 |[],R,st,es,e,F,hd,g,O=>by
  refine(fc st es (qC (F.md.ls _ _ hj) ?_) F ?_)
  .rw[e];simp[cS]
  .rw[e,List.append_nil];exact hd
 |p::Q,R,st,es,e,F,hd,0,O=>absurd O (kR _)|p::Q,R,st,es,e,F,hd,g+1,O=>by
  have F2:=F.asg<|dL 64 (.r p.2) es;have hd2:(im L (.ns<|dL 64 (.r p.2) es) st).T.get dd=some (.dict<|v6 R):=by
   rw[aW,if_neg λ z=>by have:=F.loc;rw[<-z,hd]at this;cases this];exact hd
  have hp:p∈P:=by rw[e];exact aF m0
  refine cI (hP p hp) λ c ps a1 a2 a3 a4=>?_;have J:=(F2.b9 _<|.head _).1;have nc:cc≠dd:=λ z=>by
   have:(im L (.ns<|dL 64 (.r p.2) es) st).T.get cc=some (.cell<|some<|.r dd):=J;rw[z,hd2]at this;cases this
  have F3:=F2.obj (o':=.dict<|v6<|R++[p]) hd2 rfl rfl hx h0 λ q B=>by rcases bG B with rfl|B;exact nc;cases B
  refine a5 (zt hj nd hP hl hx h0 Q (R++[p]) (by rw[e];simp) F3 (by rw[aW,if_pos rfl]) g<|kS O) λ ab f8 e4 F' uF=>?_;rw[show(R++[p]).length=R.length+1 by exact List.length_append]at e4;refine(fc ab f8 ?_ F' uF);have hk:(cS P)[R.length]?=some (.r p.2):=by rw[e];simp[cS]
  refine uo (m:=g+20) (F.md.ls _ _ hj) hk (eS F.loc) (er (m:=g+19) (y:=true) (qG (m:=g+18) (dZ (m:=g+17) (bR (m:=g+16) (F2.E bj) (F2.Ob a1) a3) rfl rfl)<|uu (m:=g+17)<|nM (m:=g+16) (bR (m:=g+15) (F2.E bj) (F2.Ob a1) a4) rfl) rfl (Fu (m:=g+18) (F2.E (m:=g+17) bj) (jl (m:=g+17) (c:=cc) rfl J) (bR (m:=g+17) (F2.E bj) (F2.Ob a1) a2) (GB hd2 (ae (by rw[e];exact ae (bL _ _)<|cB List.length_append.symm)<|ae hl (by decide)) λ q B z=>?_) bw) bw) e4;rw[e,List.map_append,List.nodup_append]at nd;exact nd.2.2 q.1 (bU B) p.1 (.head _) z
theorem Fr.comp(F:Fr D aH L es cl H st):Fr D st st.nx [] cl H (fH.V.a_ (.ns []) st):=
 let A:=JX F.md
 ⟨A.md,A.go,A.loc,A.nD,A.out,λ p hp=>⟨A.go.keep _ _ (F.b9 p hp).1 (F.b9 p hp).2 rfl,(F.b9 p hp).2⟩⟩
theorem Fr.X5(F:Fr D aH L es cl H st):Fr D aH L es [] H st:=⟨F.md,F.go,F.loc,F.nD,F.out,λ p hp=>nomatch hp⟩
theorem Fx{P:List<|Int×Nat}(nd:(P.map (·.1)).Nodup)(hj:H.ls j=some xs):∀(Q:List<|Int×Nat)(k:Nat){st:St}{es:List<|Nat×AV},xs.drop k=Q.map (λ q=>lm q.1)->(∀q∈Q,q∈P)->Fr D aH L es [(cc,.r dd)] H st->st.T.get dd=some (.dict<|v6 P)->∀g,Q.length<=g->
  ∃ab f8,(ev X<|g+8).K L [(110,cc)] (.sub (.b9 110)<|.l 6) (.l 6) [] (.lst j k) st=some (cS Q,ab)/\Fr D aH L f8 [(cc,.r dd)] H ab
 |[],k,st,es,O,B,F,hd,g,J=>by
  exact⟨st,es,Fv (m:=g+7) (F.md.ls _ _ hj)<|List.getElem?_eq_none<|List.drop_eq_nil_iff.mp O,F⟩
 |q::Q,k,st,es,O,B,F,hd,0,J=>absurd J (kR _)|q::Q,k,st,es,O,B,F,hd,g+1,J=>by
  refine xA (wF O) λ hx Si=>?_;have F2:=F.asg<|dL 6 (lm q.1) es;have hd2:(im L (.ns<|dL 6 (lm q.1) es) st).T.get dd=some (.dict<|v6 P):=by
   rw[aW,if_neg λ z=>by have:=F.loc;rw[<-z,hd]at this;cases this];exact hd
  refine b8 (Fx nd hj Q (k+1) Si (λ p hp=>B p<|.tail _ hp) F2 hd2 g<|kS J) λ ab f8 e F'=>?_;exact⟨ab,f8,Ad (m:=g+8) (F.md.ls _ _ hj) hx (eS F.loc) rfl (ki (m:=g+7) (v:=.r q.2) (jl (m:=g+6) (c:=cc) rfl (F2.b9 _<|.head _).1) (F2.E (m:=g+6) bj)<|HO hd2 (B q<|.head _) nd) e,F'⟩
theorem Vw{m:Nat}(M:Md D st H):∃ac,Md D ac H/\Go D st ac/\¬D st.nx/\¬D (st.nx+1)/\ac.T.get st.nx=some (.ns [(251,v)])/\ac.T.get (st.nx+1)=some (.cell none)/\ac.nx=st.nx+2/\(ev (bI cr)<|m+1).C 1014 [v] [] st=bF ((ev (bI cr) m).S st.nx [(110,st.nx+1)] JL.body ac) kc:=by
 refine ib (M.a_<|.ns []) λ M1 J B=>?_;refine ib (M1.a_<|.cell none) λ M2 O GZ=>?_;have gL:(a_ (.cell none)<|a_ (.ns []) st).T.get st.nx=some (.ns []):=by rw[bp,if_neg (show st.nx≠(a_ (.ns []) st).nx from Nat.ne_of_lt (Nat.lt_succ_self _)),bp,if_pos rfl]
 have gc:(a_ (.cell none)<|a_ (.ns []) st).T.get (st.nx+1)=some (.cell none):=by rw[bp];exact if_pos rfl
 refine xA (M2.names gL B [(251,v)]) λ M3 g3=>?_;exact(⟨_,M3,⟨ae J.nx O.nx,λ i o h d n=>g3 _ _ ((J.trans O).keep i o h d n)<|dI<|M.lt _ _ h⟩,B,GZ,(by rw[aW,if_pos rfl]),g3 _ _ gc<|Nat.succ_ne_self _,rfl,Fk (by kernel_rfl) rfl rfl<|qx (es:=[]) rfl gL rfl⟩)
theorem yc(M:Md D st H)(hj:H.ls j=some (cS P))(nd:(P.map (·.1)).Nodup)(hP:∀p∈P,∃c es,H.ob p.2=some (c,es)/\lk 6 es=some (.i 0 p.1)/\lk 7 es=some (.i 0 0)/\lk 11 es=some (.b false))(hl:P.length<=50){g:Nat}(hg:P.length<=g):
  ∃ab k P',P'.Perm P/\(ev (bI cr)<|g+40).C 1014 [.r j] [] st=some (.r k,ab)/\Md D ab (H.sl k<|cS P')/\Go D st ab/\st.nx<=k:=by
 refine du (Vw (cr:=cr) (m:=g+39) (v:=.r j) M) λ ac M1 G1 Dh fy=>eG fy λ GZ g1 g2 n1 e=>?_;refine ib (M1.a_<|.dict []) λ M2 O F5=>?_;have F4:H.fx (st.nx+1)=none:=(M.fresh<|bW _).1;refine xA (M2.obj (o':=.cell<|some<|.r ac.nx) (O.keep _ _ g2 GZ rfl) rfl rfl F4) λ M3 g3=>?_;have ij:Fr D st st.nx [(251,.r j)] [(st.nx+1,.r ac.nx)] H (im (st.nx+1) (.cell<|some<|.r ac.nx)<|a_ (.dict []) ac):=by
  refine⟨M3,⟨ae G1.nx O.nx,λ i o h d n=>g3 _ _ ((G1.trans O).keep i o h d n) λ z=>absurd (M.lt _ _ h)<|fe<|ae (bW _)<|cB z.symm⟩,g3 _ _ (O.keep _ _ g1 Dh rfl)<|dI<|bZ _,Dh,(M.fresh<|a9 _).2,λ p hp=>?_⟩;rcases bG hp with rfl|hp
  .exact⟨by rw[aW,if_pos rfl],GZ⟩
  .cases hp
 have Mj:(im (st.nx+1) (.cell<|some<|.r ac.nx)<|a_ (.dict []) ac).T.get ac.nx=some (.dict<|v6 []):=g3 _ _ (by rw[bp,if_pos rfl];rfl)<|n1.symm▸Nat.succ_ne_self _;have fd:H.fx ac.nx=none/\st.T.get ac.nx=none:=M.fresh<|n1.symm▸bL _ 2;refine a5 (zt (cr:=cr) hj nd hP (ae hl (by decide)) fd.1 fd.2 P [] rfl ij Mj (g+17)<|ae hg<|bL g 17) λ bk zF e4 B ZL=>?_;have Wj:(a_ (.list<|(sortI<|P.map (·.1)).map lm) bk).T.get ac.nx=some (.dict<|v6 P):=by
  rw[bp,if_neg<|Nat.ne_of_lt<|B.md.lt _ _ ZL];exact ZL
 have J:=B.pF<|(sortI<|P.map (·.1)).map lm;have hi:Jp (ev (bI cr)<|g+35) st.nx [(110,st.nx+1)] (.call (.cJ 252<|.bi 2) [.b9 110]) bk=some (.lst bk.nx 0,a_ (.list<|(sortI<|P.map (·.1)).map lm) bk):=DU rfl (ur (m:=g+33) (jl (m:=g+32) (c:=st.nx+1) rfl (B.b9 _<|.head _).1) (xg (bE ZL (bE (r7 (by rw[db];exact Nat.ble_eq.mpr<|ae (cB<|List.length_map _)<|ae hl (by decide)) (DH P):u9 (bI cr) (.dict<|v6 P)=_) rfl):iG (bI cr) [.r ac.nx] bk=_):pt (iG (bI cr) [.r ac.nx] bk) (cj (Nat.beq 2 6)<|zT (bI cr) [.r ac.nx] bk)=_))<|J.md.ls _ _ dD;refine b8 (Fx (X:=bI cr) nd (dD (H:=H)) (u_ P) 0 (by rw[<-q6,List.map_map];rfl) (λ q hq=>(gi P).mem_iff.mp hq) J.comp (by rw[bp,if_neg<|Nat.ne_of_lt<|J.md.lt _ _ Wj];exact Wj) (g+27)<|ae (cB (gi P).length_eq)<|ae hg<|bL g 27) λ G2 To e6 F6=>?_;refine du (wL (cs:=[(110,st.nx+1)]) (fr:=[110]) hi rfl J.md e6 F6.X5<|ae (cB<|(List.length_map _).trans (gi P).length_eq)<|ae hl (by decide)) λ jz e7 M7 G7 Yr=>?_;have n4:st.nx<=bk.nx:=B.go.nx;refine(iA jz (jz.nx-1) (u_ P) (gi P) ?_ (M7.mono<|tC (lG (B.md.jZ<|a9 _) _) _) (J.go.trans G7)<|ae (de n4)<|Nat.le_pred_of_lt Yr);exact nS e<|NY (m:=g+38) (c:=st.nx+1) (v:=.r ac.nx) (ac:=a_ (.dict []) ac) rfl rfl (O.keep _ _ g2 GZ rfl)<|yJ (m:=g+37) (ij.E rfl) (ij.md.ls _ _ hj) e4<|jH (m:=g+36) e7
end
noncomputable def MA:List IS:=[.ex<|.bT (.l 5) 262 [.l 64]]
noncomputable def Mx:List IS:=[.iff (.and [.cmp .eq (.dg (.l 64) 7)<|.c<|.i 0 0,.not<|.dg (.l 64) 11]) [.ex<|.bT (.l 5) 263 [.l 64]] []]
def ww:List IS:=[.asg (.l 260)<|.call (.cJ 261<|.g 1014) [.oR (.dg (.dg (.l 5) 55) 31) (some<|.l 216) none],.n_ (.dg (.l 5) 55) 31<|.oR (.dg (.dg (.l 5) 55) 31) none<|some<|.l 216,.fr (.l 64) (.l 260) MA,.fr (.l 64) (.l 260) Mx]
noncomputable def oS:IE:=.cmp .gt (.call (.cJ 57<|.bi 0) [.dg (.dg (.l 5) 55) 31])<|.l 216
variable{α:List (Int×Nat)->Hp->Prop}{Post:Hp->Prop}
section
variable{D:Nat->Prop}{X:Env}{a k L x m z K:Nat}{P:List<|Int×Nat}
theorem wo(yf:∀Q H,α Q H->H.ob 17=some (1106,WL))(O:∀Q H,α Q H->H.ls k=some xs)(step:∀p Q H st m,α (p::Q) H->Md D st H->∃ab H',(ev (bI cr)<|m+20).C 1096 [.r 17,.r p.2] [] st=some (.none,ab)/\Md D ab H'/\Go D st ab/\α Q H'):
  ∀(Q:List<|Int×Nat)(i:Nat){st:St}{H:Hp}{es:List<|Nat×AV},xs.drop i=cS Q->Fr D aH L es [] H st->lk 5 es=some (.r 17)->α Q H->∀g,Q.length<=g->∃ab f8 H',(ev (bI cr)<|g+24).F L [] (.l 64) (.lst k i) MA st=some (.d6,ab)/\Fr D aH L f8 [] H' ab/\α [] H'/\∀y,y≠64->lk y f8=lk y es
 |[],i,st,H,es,hi,F,h5,B,g,J=>by
  refine(oD st es H (qC (F.md.ls _ _<|O _ _ B)<|List.getElem?_eq_none<|List.drop_eq_nil_iff.mp hi) F B<|λ _ _=>rfl)
 |p::Q,i,st,H,es,hi,F,h5,B,0,J=>absurd J (kR _)|p::Q,i,st,H,es,hi,F,h5,B,g+1,J=>by
  refine xA (wF hi) λ hx Si=>?_;have F2:=F.asg<|dL 64 (.r p.2) es;refine cI (step p Q H _ (g+2) B F2.md) λ aJ d9 e3 M3 G3 I3=>?_;have F3:=F2.kX M3 G3;refine cQ (wo yf O step Q (i+1) Si F3 (by rw[cw];assumption) I3 g<|kS J) λ ab f8 H' e4 F' I' hn=>?_;refine(oD ab f8 H' ?_ F' I'<|λ y hy=>(hn y hy).trans (by rw[cw];exact if_neg (by assumption)));exact uo (m:=g+24) (F.md.ls _ _<|O _ _ B) hx (eS F.loc) (ju (m:=g+23) (je (m:=g+22) (F2.E (by rw[cw];assumption)) (F2.Ob<|yf _ _ B) rfl (by kernel_rfl) (aP (m:=g+21) (F2.E bj) bz) e3) bw) e4
theorem wh(yf:∀Q H,α Q H->H.ob 17=some (1106,WL))(O:∀Q H,α Q H->H.ls k=some xs)(hc:∀p Q H,α (p::Q) H->∃c es,H.ob p.2=some (c,es)/\lk 7 es=some (.i 0 0)/\lk 11 es=some (.b false))(step:∀p Q H st m,α (p::Q) H->Md D st H->∃ab H',(ev (bI cr)<|m+80).C 1103 [.r 17,.r p.2] [] st=some (.none,ab)/\Md D ab H'/\Go D st ab/\α Q H'):
  ∀(Q:List<|Int×Nat)(i:Nat){st:St}{H:Hp}{es:List<|Nat×AV},xs.drop i=cS Q->Fr D aH L es [] H st->lk 5 es=some (.r 17)->α Q H->∀g,Q.length<=g->∃ab f8 H',(ev (bI cr)<|g+90).F L [] (.l 64) (.lst k i) Mx st=some (.d6,ab)/\Fr D aH L f8 [] H' ab/\α [] H'/\∀y,y≠64->lk y f8=lk y es
 |[],i,st,H,es,hi,F,h5,B,g,J=>by
  refine(oD st es H (qC (F.md.ls _ _<|O _ _ B)<|List.getElem?_eq_none<|List.drop_eq_nil_iff.mp hi) F B<|λ _ _=>rfl)
 |p::Q,i,st,H,es,hi,F,h5,B,0,J=>absurd J (kR _)|p::Q,i,st,H,es,hi,F,h5,B,g+1,J=>by
  refine xA (wF hi) λ hx Si=>?_;have F2:=F.asg<|dL 64 (.r p.2) es;refine a5 (hc p Q H B) λ c ps a1 a3 a4=>?_;refine cI (step p Q H _ (g+7) B F2.md) λ aJ d9 e3 M3 G3 I3=>?_;have F3:=F2.kX M3 G3;refine cQ (wh yf O hc step Q (i+1) Si F3 (by rw[cw];assumption) I3 g<|kS J) λ ab f8 H' e4 F' I' hn=>?_;refine(oD ab f8 H' ?_ F' I'<|λ y hy=>(hn y hy).trans (by rw[cw];exact if_neg (by assumption)));exact uo (m:=g+90) (F.md.ls _ _<|O _ _ B) hx (eS F.loc) (er (m:=g+89) (y:=true) (qG (m:=g+88) (dZ (m:=g+87) (bR (m:=g+86) (F2.E bj) (F2.Ob a1) a3) rfl rfl)<|uu (m:=g+87)<|nM (m:=g+86) (bR (m:=g+85) (F2.E bj) (F2.Ob a1) a4) rfl) rfl
   (ju (m:=g+88) (je (m:=g+87) (F2.E (by rw[cw];assumption)) (F2.Ob<|yf _ _ B) rfl (by kernel_rfl) (aP (m:=g+86) (F2.E bj) bz) e3) bw) bw) e4
theorem oX(F:Fr D aH L es cl H st)(B:lk 5 es=some (.r 17))(O:lk 216 es=some (.i 0 0))(K:Cn H z zs)(m:Nat):(ev (bI cr)<|m+8).E L [] oS st=some (.b<|Nat.blt 0 zs.length,st):=by
 refine xE K.JT λ v J=>?_;exact dZ (m:=m+7) (FD (m:=m+5) (bR (m:=m+4) (bR (m:=m+3) (F.E B) (F.Ob K.jU) rfl) (F.Ob J) rfl)<|F.md.ls _ _ K.lz) (F.E O) rfl
theorem vf(F:Fr D aH L es [] H st)(h5:lk 5 es=some (.r 17))(nX:lk 216 es=some (.i 0 0))(K:Cn H z<|cS P)(nd:(P.map (·.1)).Nodup)(hP:∀p∈P,∃c es,H.ob p.2=some (c,es)/\lk 6 es=some (.i 0 p.1)/\lk 7 es=some (.i 0 0)/\lk 11 es=some (.b false))(hl:P.length<=50){g:Nat}(hg:P.length<=g):
  ∃ab k J z' H',J.Perm P/\(∀ss,(ev (bI cr)<|g+50).S L [] (.asg (.l 260) (.call (.cJ 261<|.g 1014) [.oR (.dg (.dg (.l 5) 55) 31) (some<|.l 216) none])::.n_ (.dg (.l 5) 55) 31 (.oR (.dg (.dg (.l 5) 55) 31) none<|some<|.l 216)::ss) st=(ev (bI cr)<|g+48).S L [] ss ab)/\
   Fr D aH L (dL 260 (.r k) es) [] H' ab/\Cn H' z' []/\H'.ls k=some (cS J)/\k≠z'/\st.nx<=k/\st.nx<=z'/\(∀w,o0 (λ x=>x=16) w H H'):=by
 refine xE K.JT λ v lO=>?_;have F1:=F.pF<|cS P;have nz:=F.md.jZ<|a9 st.nx;have l1:H.le (H.sl st.nx<|cS P):=lG nz _;refine bA (yc (cr:=cr) F1.md dD nd (λ p hp=>by
  refine b8 (hP p hp) λ c es a b=>?_;exact⟨c,es,l1.ob _ _ a,b⟩) hl (g:=g+8)<|ae hg<|bL g 8) λ af k J pP e2 M2 G2 hk=>?_
 have nk:H.ls k=none:=F.md.jZ<|Nat.le_of_succ_le hk;have B:Md D af (H.sl k<|cS J):=M2.mono<|tC l1 _;have F2:=(F.kX B<|(F.md.a_<|.list<|cS P).2.1.trans G2).asg<|dL 260 (.r k) es;have F3:=F2.pF [];have P':((H.sl k<|cS J).sl af.nx []).ob 16=some (225,[(29,.r 19),(30,v),(31,.r z)]):=lO;refine bc (F3.gj P' (by simp) 31<|.r af.nx) λ bk e4 F4 n4=>?_;have O:=B.jZ<|a9 af.nx;have kz:k≠af.nx:=λ q=>by rw[<-q,dD]at O;exact ns O
 have zk:z≠k:=λ q=>by have:=K.lz;rw[q,nk]at this;exact nn this
 have Ll:H.ls af.nx=none:=by rw[di kz.symm]at O;exact O
 refine(⟨bk,k,J,af.nx,_,pP,λ ss=>?_,F4,⟨(dh (by exactλ h=>nomatch h)).trans K.jU,⟨v,cF⟩,dD,K.cl,K.co,K.ce,K.Ii,K.Ig⟩,(di kz).trans dD,kz,Nat.le_of_succ_le hk,ae (bW _) G2.nx,λ w=>?_⟩)
 .have a1:∀q,(ev (bI cr)<|q+3).E L [] (.dg (.dg (.l 5) 55) 31) st=some (.r z,st):=λ q=>bR (m:=q+2) (bR (m:=q+1) (F.E h5) (F.Ob K.jU) rfl) (F.Ob lO) rfl;have a2:∀q,(ev (bI cr)<|q+3).E L [] (.dg (.dg (.l 5) 55) 31) (im L (.ns<|dL 260 (.r k) es) af)=some (.r z,im L (.ns<|dL 260 (.r k) es) af):=λ q=>bR (m:=q+2) (bR (m:=q+1) (F2.E (by rw[cw];assumption)) (F2.Ob K.jU) rfl) (F2.Ob lO) rfl;refine gD (m:=g+49) (dF (m:=g+47) (by kernel_rfl) rfl (aP (m:=g+47) (N_ (m:=g+46) (a1 _) (F.E nX)<|F.md.ls _ _ K.lz) bz) e2) (F.kX B<|(F.md.a_<|.list<|cS P).2.1.trans G2).loc ?_;exact jd (m:=g+48) (N9 (m:=g+47) (a2 _) (F2.E (by rw[cw];assumption))<|F2.md.ls _ _<|(di zk).trans K.lz) (bR (m:=g+47) (F3.E (by rw[cw];assumption)) (F3.Ob K.jU) rfl) e4 rfl
 .exact((o0.le<|lG nk _).trans<|.le<|lG O _).trans (.so rfl)
structure JY(D:Nat->Prop)(cr:Nat->Nat->Option Int)(k:Nat)(xs:List AV)(fa K:Nat)(α:List (Int×Nat)->Hp->Prop):Prop where
 jU:∀Q H,α Q H->H.ob 17=some (1106,WL)
 lk:∀Q H,α Q H->H.ls k=some xs
 step:∀p Q H st m,α (p::Q) H->Md D st H->∃ab H',(ev (bI cr)<|m+K).C fa [.r 17,.r p.2] [] st=some (.none,ab)/\Md D ab H'/\Go D st ab/\α Q H'
theorem oY{g:Nat}(F:Fr D aH L es [] H st)(h5:lk 5 es=some (.r 17))(nX:lk 216 es=some (.i 0 0))(K:Cn H z<|cS P)(ne:P≠[])(nd:(P.map (·.1)).Nodup)(hP:∀p∈P,∃c es,H.ob p.2=some (c,es)/\lk 6 es=some (.i 0 p.1)/\lk 7 es=some (.i 0 0)/\lk 11 es=some (.b false))(hl:P.length<=50)(hg:P.length<=g)(go:∀k z' B cb,B.Perm P->Cn cb z' []->cb.ls k=some (cS B)->k≠z'->st.nx<=k->st.nx<=z'->(∀w,o0 (λ x=>x=16) w H cb)->∃IH J,IH B cb/\JY D cr k (cS B) 1096 20 IH/\(∀d9,IH [] d9->J B d9)/\JY D cr k (cS B) 1103 80 J/\
   (∀p Q H,J (p::Q) H->∃c es,H.ob p.2=some (c,es)/\lk 7 es=some (.i 0 0)/\lk 11 es=some (.b false))/\∀fu,J [] fu->Post fu):
  ∃ab f8 H',(ev (bI cr)<|g+95).W L [] oS ww st=(ev (bI cr)<|g+94).W L [] oS ww ab/\Fr D aH L f8 [] H' ab/\Post H'/\lk 5 f8=some (.r 17)/\lk 216 f8=some (.i 0 0):=by
 refine j_ (vf (cr:=cr) F h5 nX K nd hP hl (g:=g+44)<|ae hg<|bL g 44) λ af k fy=>fZ fy λ B z' cb pP e2 F2 K2 hk B9=>iI B9 λ kz n1 n2 O2=>?_;refine gd (go k z' B cb pP K2 hk kz n1 n2 O2) λ IH J i1 S1 i12 S2 hc R6=>?_;have O:B.length<=g:=pP.length_eq▸hg;have ZX:lk 5 (dL 260 (.r k) es)=some (.r 17):=by rw[cw];assumption
 refine cQ (wo (cr:=cr) S1.jU S1.lk S1.step B 0 rfl F2 ZX i1 (g+67)<|ae O<|bL g 67) λ aJ Tp d9 e3 F3 i3 n3=>?_;refine cQ (wh (cr:=cr) S2.jU S2.lk hc S2.step B 0 rfl F3 ((n3 5 (by decide)).trans ZX) (i12 _ i3) g O) λ bk zF fu e4 F4 i4 n4=>?_;refine(iA bk zF fu ?_ F4 (R6 _ i4) ((n4 5 (by decide)).trans<|(n3 5 (by decide)).trans ZX)<|(n4 216 (by decide)).trans<|(n3 216 (by decide)).trans (by rw[cw];assumption));have lt:Nat.blt 0 (cS P).length=true:=by cases P with|nil=>exact absurd rfl ne|cons p P=>rfl
 exact W_T (m:=g+94) (oX (cr:=cr) F h5 nX K<|g+86) (congrArg some lt) ((e2 [.fr (.l 64) (.l 260) MA,.fr (.l 64) (.l 260) Mx]).trans
  (yJ (m:=g+91) (F2.E (m:=g+90) bj) (F2.md.ls _ _ hk) e3<|yJ (m:=g+90) (F3.E (m:=g+89)<|(n3 260 (by decide)).trans bj) (F3.md.ls _ _<|S1.lk _ _ i3) e4 bw)) rfl
end
structure Tv where
 a:Nat
 r:Nat
 w:Nat
 n:Int
 k:Nat
abbrev qT(L:List Tv)(x:Nat):Prop:=∃t∈L,x=t.a
abbrev RT(EL:List Ev)(TL:List Tv)(x:Nat):Prop:=FQ EL x\/qT TL x
noncomputable def cnt(t:Tv)(L:List Ev):Nat:=L.countP λ e=>e.k==t.k
def nO(t:Tv)(c:Int)(ds:Bool):List (Nat×AV):=jw t.n c (.s 13) t.w ds false<|.i 0 t.k
noncomputable def Hp.del(H:Hp)(a:Nat):Hp:=⟨λ i=>if i=a then none else H.ob i,H.ls,H.fx⟩
noncomputable def sK(TL:List Tv)(L:List Ev):List Tv:=TL.filter λ t=>cnt t L==0
structure Dy(H:Hp)(z:Nat)(Z:List Tv)(EQ R:List Ev)(TL:List Tv):Prop where
 cn:Cn H z (Z.map λ t=>.r t.a)
 el:∀e∈EQ,e.at 0 H/\H.ls e.w=some []
 th:∀t∈TL,H.ob t.a=some (66,nO t (cnt t<|EQ++R) false)/\H.ob t.r=some (162,[(27,.r t.a),(28,.b false)])/\H.ls t.w=some []
structure Bs(EL:List Ev)(TL:List Tv)(A:Nat):Prop where
 nd:(EL.map (·.a)++(TL.map (·.a)++[A,16,17])).Nodup
 nr:∀t∈TL,t.r∉EL.map (·.a)++(TL.map (·.a)++[A,16,17])
 tk:(TL.map (·.k)).Nodup
 k0:∀t∈TL,t.k≠0
 ek:∀e∈EL,e.k=0/\e.v=.none\/∃t∈TL,t.k=e.k/\e.v=.r t.r
theorem X_{A:Nat}(h:[A,16,17].Nodup):16≠A/\17≠A:=⟨λ q=>(jG h).1<|List.mem_cons.mpr<|.inl q.symm,λ q=>(jG h).1<|List.mem_cons.mpr<|.inr<|List.mem_cons.mpr<|.inl q.symm⟩
theorem X8{n:Nat}(h:n≠0):(!(n==0))=true:=Nat.casesAuxOn (motive:=λ n=>n≠0->(!(n==0))=true) n (λ h=>absurd rfl h) (λ _ _=>rfl) h
theorem QO{n:Nat}(h:n=1\/n=2):¬(n==0)=true:=h.elim (λ e=>e▸Bool.false_ne_true) λ e=>e▸Bool.false_ne_true
theorem Rr{n:Nat}(h:n=1\/n=2):n<=2:=h.elim (λ e=>ae (cB e) (by decide)) cB
theorem cnt_cons(t:Tv)(e:Ev)(L:List Ev):cnt t (e::L)=cnt t L+if e.k=t.k then 1 else 0:=by
 unfold cnt;rw[List.countP_cons];simp
variable{TL:List Tv}
theorem zo(h:(TL.map (·.k)).Nodup){t s:Tv}(B:t∈TL)(hs:s∈TL)(e:t.k=s.k):t=s:=fm (f:=λ t:Tv=>t.k) h t B s hs e
theorem qe{p q:I->Bool}{a:I}:∀{l:List I},l.Nodup->a∈l->p a=false->q a=true->(∀b∈l,b≠a->q b=p b)->(l.filter q).Perm (l.filter p++[a])
 |[],_,h,_,_,_=>nomatch h|b::l,nd,ha,hp,J,h=>by
  rw[List.nodup_cons]at nd;rcases bG ha with rfl|ha
  .rw[List.filter_cons_of_pos J,List.filter_cons_of_neg (by simp[hp]),List.filter_congr λ x hx=>h x (.tail _ hx) λ z=>nd.1<|z▸hx];exact(List.perm_append_singleton _ _).symm
  .have ih:=qe nd.2 ha hp J λ x hx=>h x<|.tail _ hx;have e:=h b (.head _) λ z=>nd.1<|z▸ha;cases B:p b with|true=>rw[List.filter_cons_of_pos (by rw[e,B]),List.filter_cons_of_pos B];exact ih.cons b|false=>rw[List.filter_cons_of_neg (by rw[e,B];exactλ h=>nomatch h),List.filter_cons_of_neg (by rw[B];exactλ h=>nomatch h)];exact ih
section
variable{D:Nat->Prop}{a z A:Nat}{e:Ev}{EQ R:List Ev}{Z:List Tv}
theorem dC{x:Nat}(h:x≠a):(H.del a).ob x=H.ob x:=if_neg h
theorem t9(h:∀x,x≠a->H.ob x=H'.ob x)(hl:H.ls=H'.ls)(B:H.fx=H'.fx):(H.del a).le H':=⟨λ x y q=>by
 by_cases e:x=a
 .have:(H.del a).ob x=none:=if_pos e;rw[this]at q;exact nn q
 .rw[dC e]at q;rw[<-h x e];exact q,λ x y q=>by rw[<-hl];exact q,λ x y q=>by rw[<-B];exact q⟩
theorem o0.del{P:Nat->Prop}{w:Nat}(h:P a):o0 P w H (H.del a):=⟨λ x y p q=>(dC (show x≠a from λ e=>p<|e.symm▸h)).trans q,λ _ _ _ q=>q,λ _ _ q=>q⟩
theorem HR(B:Bs EL TL A)(he:e∈EL)(Ss:∀f∈EQ,f∈EL/\f.a≠e.a)(M:Md D st H)(Y:Dy H z Z (e::EQ) R TL)(hz:Z.Perm<|sK TL (e::EQ++R))(Bf:∀t∈TL,cnt t (e::EQ++R)<=2)(hw:(∀f∈EL,f.w≠z)/\∀t∈TL,t.w≠z)(hl:Z.length<=1000)(m:Nat):
  ∃ab H' Z',(ev (bI cr)<|m+60).C 1103 [.r 17,.r e.a] [] st=some (.none,ab)/\Md D ab H'/\Go D st ab/\Dy H' z Z' EQ R TL/\Z'.Perm (sK TL<|EQ++R)/\o0 (λ x=>x=e.a\/qT TL x) z H H':=by
 refine xA (Y.el e<|.head _) λ e1 e2=>?_;have nd:=fg B.nd;have eT:∀t∈TL,e.a≠t.a:=λ t J=>nd.2.2 _ (bU he) _<|aU<|bU J;have lO:16≠e.a:=λ q=>nd.2.2 _ (bU he) 16 (aF m1) q.symm;have xf:17≠e.a:=λ q=>nd.2.2 _ (bU he) 17 (aF m2) q.symm;have fT:∀f∈EQ,∀t∈TL,f.a≠t.a:=λ f hf t J=>nd.2.2 _ (List.mem_map.mpr ⟨f,(Ss f hf).1,rfl⟩) _<|aU<|bU J;have rE:∀t∈TL,t.r≠e.a:=λ t J q=>B.nr t J<|aU<|List.mem_map.mpr ⟨e,he,q.symm⟩;have rT:∀t∈TL,∀s∈TL,t.r≠s.a:=λ t J s hs q=>B.nr t J<|aF<|aU<|List.mem_map.mpr ⟨s,hs,q.symm⟩;rcases B.ek e he with⟨k0,v0⟩|⟨t,J,tk,v0⟩
 .
  have ce:∀s∈TL,cnt s (e::EQ++R)=cnt s (EQ++R):=λ s hs=>by
   rw[List.cons_append,cnt_cons,if_neg (by have:=B.k0 s hs;lia)];rfl
  refine bc (tV (cr:=cr) (H':=H.del e.a) M Y.cn e1 e2 xf lO (λ k st m M'=>by
   refine bc (vn (cr:=cr) (u:=.r e.a) (v:=.none) M' (λ _=>rfl)<|m+8) λ ab g1 g2 g3=>?_;exact(jQ ab _ (by rw[v0];exact g1) g2 g3 cF<|t9 (λ x hx=>(dh hx).symm) rfl rfl)) m) λ ab g1 g2 g3=>?_
  refine(⟨ab,_,Z,g1,g2,g3,⟨Y.cn.out (o0.del (P:=λ x=>x=e.a) rfl) xf lO Y.cn.lz,λ f hf=>⟨(dC (Ss f hf).2).trans (Y.el f<|.tail _ hf).1,(Y.el f<|.tail _ hf).2⟩,λ s hs=>?_⟩,?_,.del<|.inl rfl⟩)
  .refine ib (Y.th s hs) λ b1 b2 b3=>?_;rw[ce s hs]at b1;exact⟨(dC (eT s hs).symm).trans b1,(dC<|rE s hs).trans b2,b3⟩
  .refine hz.trans (.of_eq<|List.filter_congr λ s hs=>?_);rw[ce s hs]
 .
  have Gu:16≠t.a:=λ q=>(fg nd.2.1).2.2 _ (bU J) 16 m1 q.symm;have Kz:17≠t.a:=λ q=>(fg nd.2.1).2.2 _ (bU J) 17 m2 q.symm;refine ib (Y.th t J) λ b1 b2 b3=>?_;have ct:cnt t (e::EQ++R)=cnt t (EQ++R)+1:=by rw[List.cons_append,cnt_cons,if_pos tk.symm]
  have cs:∀s∈TL,s≠t->cnt s (e::EQ++R)=cnt s (EQ++R):=λ s hs ne=>by
   rw[List.cons_append,cnt_cons,if_neg λ q=>ne<|zo B.tk hs J<|q.symm.trans tk.symm];rfl
  have ta:∀s∈TL,s≠t->s.a≠t.a:=λ s hs ne q=>ne<|fm (f:=λ t:Tv=>t.a) (fg nd.2.1).1 s hs t J q;have c2:=Bf t J;have FO:TL.Nodup:=by
   have:=(fg nd.2.1).1;exact(List.pairwise_map.mp this).imp λ h q=>h (congrArg _ q)
  rw[ct]at b1 c2;have hc:cnt t (EQ++R)=0\/cnt t (EQ++R)=1:=by lia
  clear tk b3 c2;rcases hc with h0|h0<;>rw[h0]at b1
  .refine bc (tV (cr:=cr) (H':=((H.so t.a 66<|nO t 0 false).sl z<|Z.map (λ t=>.r t.a)++[.r t.a]).del e.a) M Y.cn e1 e2 xf lO (λ k st m M'=>by
    refine bc (o_ (cr:=cr) (u:=.r e.a) M' (Y.cn.so xf lO _ _) ((dh<|rE t J).trans b2) m λ st m Vj=>tA (cr:=cr) Vj (Y.cn.so xf lO _ _) ((dh (eT t J).symm).trans b1) rfl Kz Gu (by simp[nO,jw]) (by simp;exact ae (by assumption) (by simp)) m) λ ab g1 g2 g3=>?_;exact(jQ ab _ (by rw[v0];exact g1) g2 g3 ((dh<|eT t J).trans cF) (t9 (λ x hx=>by
     show(if x=t.a then _ else H.ob x)=if x=t.a then _ else(if x=e.a then _ else H.ob x)
     rw[if_neg hx];rfl) rfl rfl))) m) λ ab g1 g2 g3=>?_
   have O:o0 (λ x=>x=e.a\/qT TL x) z H (((H.so t.a 66<|nO t 0 false).sl z<|Z.map (λ t=>AV.r t.a)++[.r t.a]).del e.a):=((o0.so<|.inr ⟨t,J,rfl⟩).trans .I4).trans<|.del<|.inl rfl;refine(⟨ab,_,Z++[t],g1,g2,g3,⟨?_,λ f hf=>⟨?_,?_⟩,λ s hs=>?_⟩,?_,O⟩)
   .rw[List.map_append];exact(((Y.cn.so Kz Gu 66<|nO t 0 false).I4 _).out (o0.del (P:=λ x=>x=e.a) rfl) xf lO dD)
   .exact(dC (Ss f hf).2).trans ((dh<|fT f hf t J).trans (Y.el f<|.tail _ hf).1)
   .exact(di<|hw.1 f (Ss f hf).1).trans (Y.el f<|.tail _ hf).2
   .refine ib (Y.th s hs) λ s1 s2 s3=>?_;refine⟨?_,(dC<|rE s hs).trans<|(dh<|rT s hs t J).trans s2,(di<|hw.2 s hs).trans s3⟩;by_cases q:s=t
    .clear J v0 Gu Kz b1 b2 ct cs ta g2 O;subst q;rw[h0];exact(dC (eT s hs).symm).trans cF
    .rw[cs s hs q]at s1;exact(dC (eT s hs).symm).trans ((dh<|ta s hs q).trans s1)
   .refine(List.Perm.append_right _ hz).trans (qe FO J (by rw[ct];rfl) (by rw[h0];rfl) λ s hs ne=>by rw[cs s hs ne]).symm
  .refine bc (tV (cr:=cr) (H':=(H.so t.a 66<|nO t 1 false).del e.a) M Y.cn e1 e2 xf lO (λ k st m M'=>by
    refine bc (o_ (cr:=cr) (u:=.r e.a) M' (Y.cn.so xf lO _ _) ((dh<|rE t J).trans b2) m λ st m Vj=>Hl (cr:=cr) Vj (Y.cn.so xf lO _ _) ((dh (eT t J).symm).trans b1) rfl Kz Gu (by simp[nO,jw]) m) λ ab g1 g2 g3=>?_;exact(jQ ab _ (by rw[v0];exact g1) g2 g3 ((dh<|eT t J).trans cF) (t9 (λ x hx=>by
     show(if x=t.a then _ else H.ob x)=if x=t.a then _ else(if x=e.a then _ else H.ob x)
     rw[if_neg hx];rfl) rfl rfl))) m) λ ab g1 g2 g3=>?_
   have O:o0 (λ x=>x=e.a\/qT TL x) z H ((H.so t.a 66<|nO t 1 false).del e.a):=(o0.so<|.inr ⟨t,J,rfl⟩).trans<|.del<|.inl rfl;refine(⟨ab,_,Z,g1,g2,g3,⟨?_,λ f hf=>⟨?_,(Y.el f<|.tail _ hf).2⟩,λ s hs=>?_⟩,?_,O⟩)
   .exact((Y.cn.so Kz Gu 66<|nO t 1 false).out (o0.del (P:=λ x=>x=e.a) rfl) xf lO Y.cn.lz)
   .exact(dC (Ss f hf).2).trans ((dh<|fT f hf t J).trans (Y.el f<|.tail _ hf).1)
   .refine ib (Y.th s hs) λ s1 s2 s3=>?_;refine⟨?_,(dC<|rE s hs).trans<|(dh<|rT s hs t J).trans s2,s3⟩;by_cases q:s=t
    .clear J v0 Gu Kz b1 b2 ct cs ta g2 O;subst q;rw[h0];exact(dC (eT s hs).symm).trans cF
    .rw[cs s hs q]at s1;exact(dC (eT s hs).symm).trans ((dh<|ta s hs q).trans s1)
   .refine hz.trans (.of_eq<|List.filter_congr λ s hs=>?_);by_cases q:s=t
    .clear J v0 Gu Kz b1 b2 cs ta g2 O;subst q;rw[ct,h0];rfl
    .rw[cs s hs q]
end
theorem iO{f:I->β}:∀{l':List β}{l:List I},l'.Perm (l.map f)->∃k:List I,k.Perm l/\l'=k.map f
 |[],l,h=>by
  have:l=[]:=by
   have:=h.length_eq;exact eU (by simpa using this.symm)
  subst this;exact⟨[],.refl _,rfl⟩
 |b::l',l,h=>by
  refine a8 (eV<|h.mem_iff.mp<|.head _) λ a ha e=>?_;refine j_ (List.append_of_mem ha) λ s t O=>?_;clear ha;subst O;have h2:l'.Perm ((s++t).map f):=by
   have:(b::l').Perm (b::(s++t).map f):=h.trans (by rw[List.map_append,List.map_cons,e,List.map_append];exact List.perm_middle);exact this.cons_inv
  refine a8 (iO h2) λ k J B=>?_;exact⟨a::k,(J.cons a).trans List.perm_middle.symm,by rw[List.map_cons,e,B]⟩
structure Po2(H:Hp)(hs:List AV)(EL R:List Ev)(TL:List Tv)(H':Hp)(z':Nat)(Z:List Tv):Prop where
 nz:H.ls z'=none
 cn:Cn H' z' (Z.map λ t=>.r t.a)
 pz:Z.Perm (sK TL R)
 th:∀t∈TL,H'.ob t.a=some (66,nO t (cnt t R) false)/\H'.ls t.w=some []
 hh:H'.ls 10=some hs
 out:∀w,o0 (λ x=>x=16\/RT EL TL x) w H H'
def J0(H:Hp)(hs:List AV)(EL R:List Ev)(TL:List Tv)(H':Hp):Prop:=∃(z':Nat)(Z:List Tv),Po2 H hs EL R TL H' z' Z
structure Po1(H:Hp)(hs:List AV)(EL:List Ev)(A:Nat)(nA:Int)(H':Hp)(z':Nat):Prop where
 nz:H.ls z'=none
 cn:Cn H' z' (EL.map λ e=>.r e.a)
 el:∀e∈EL,e.at 0 H'
 hh:H'.ls 10=some (hs++[.i 0 nA])
 out:o0 (λ x=>x=16\/x=A\/FQ EL x) 10 H H'
def J1(H:Hp)(hs:List AV)(EL:List Ev)(A:Nat)(nA:Int)(H':Hp):Prop:=∃z':Nat,Po1 H hs EL A nA H' z'
noncomputable def xL(e:Ev):Int×Nat:=(e.n,e.a)
noncomputable def rf(t:Tv):Int×Nat:=(t.n,t.a)
structure R2(cb:Hp)(hs:List AV)(z' k:Nat)(EL Od R:List Ev)(TL:List Tv)(EQ:List Ev)(Z:List Tv)(H':Hp):Prop where
 sub:∀e∈EQ,e∈EL
 nd:(EQ.map (·.a)).Nodup
 dy:Dy H' z' Z EQ R TL
 pz:Z.Perm (sK TL<|EQ++R)
 c2:∀t∈TL,cnt t (EQ++R)<=2
 lk:H'.ls k=some (cS<|Od.map xL)
 hh:H'.ls 10=some hs
 out:o0 (RT EL TL) z' cb H'
def Q2(cb:Hp)(hs:List AV)(z' k:Nat)(EL Od R:List Ev)(TL:List Tv)(Q:List<|Int×Nat)(H':Hp):Prop:=∃(EQ:List Ev)(Z:List Tv),Q=EQ.map xL/\R2 cb hs z' k EL Od R TL EQ Z H'
def Q1(cb:Hp)(EL:List Ev)(Q:List<|Int×Nat)(H':Hp):Prop:=(∃EQ:List Ev,Q=EQ.map xL/\∀e∈EQ,e∈EL)/\H'=cb
variable{cb:Hp}{z' wA cA:Nat}{nA:Int}{Vg Vf:Nat->Prop}{Vm Vk:List Ev}
section
variable{D:Nat->Prop}{a z A L k it:Nat}{R:List Ev}{Z:List Tv}{hs:List AV}{g:Nat}
theorem Lb{P:Nat->Prop}(O:∀w,o0 Vg w H cb)(B:o0 Vf z cb H')(nz:H.ls z=none)(h1:∀x,Vg x->P x)(h2:∀x,Vf x->P x):∀w,o0 P w H H':=λ w=>
 ⟨λ x y p h=>B.ob x y (λ q=>p<|h2 x q)<|(O 0).ob x y (λ q=>p<|h1 x q) h,λ i l _ h=>B.ls i l (λ q=>by rw[q,nz]at h;exact nn h)<|(O<|i+1).ls i l (Nat.succ_ne_self i).symm h,λ i o h=>B.fx i o<|(O 0).fx i o h⟩
theorem lR(p:Vm.Perm Vk)(t:Tv):cnt t Vm=cnt t Vk:=p.countP_eq _
theorem KZ(B:Bs EL TL A)(F:Fr D aH L es [] H st)(h5:lk 5 es=some (.r 17))(nX:lk 216 es=some (.i 0 0))(K:Cn H z<|EL.map λ e=>.r e.a)(ne:EL≠[])(nn:(EL.map (·.n)).Nodup)(el:∀e∈EL,e.at 0 H/\H.ls e.w=some [])(th:∀t∈TL,H.ob t.a=some (66,nO t (cnt t<|EL++R) false)/\H.ob t.r=some (162,[(27,.r t.a),(28,.b false)])/\H.ls t.w=some [])(Bf:∀t∈TL,cnt t (EL++R)=1\/cnt t (EL++R)=2)(hh:H.ls 10=some hs)(sz:EL.length<=20)(sT:TL.length<=900)(hg:EL.length<=g):
  ∃ab f8 H',(ev (bI cr)<|g+95).W L [] oS ww st=(ev (bI cr)<|g+94).W L [] oS ww ab/\Fr D aH L f8 [] H' ab/\J0 H hs EL R TL H'/\lk 5 f8=some (.r 17)/\lk 216 f8=some (.i 0 0):=by
 have nd:=fg B.nd;have rE:cS (EL.map xL)=EL.map λ e=>.r e.a:=by exact List.map_map
 have lO:∀e∈EL,e.a≠16:=λ e O q=>nd.2.2 _ (bU O) 16 (aF m1) q;refine oY (P:=EL.map xL) (Post:=J0 H hs EL R TL) F h5 nX (by rw[rE];exact K) (λ q=>ne<|List.map_eq_nil_iff.mp q) (by rw[List.map_map];exact nn) (λ p hp=>?_) (vZ<|ae sz (by decide)) (vZ hg) λ k z' P' cb pP K2 hk kz n1 n2 O2=>?_
 .refine a8 (eV hp) λ e O z2=>?_;clear hp;subst z2;exact(fN 66 _ (el e O).1 rfl rfl rfl)
 .refine a8 (iO pP) λ Od pE z2=>?_;clear pP;subst z2;have nz:H.ls z'=none:=F.md.jZ n2;have lw:∀{i},H.ls i=some []->i≠z':=λ{i} h q=>by rw[q,nz]at h;cases h
  have BU:10≠z':=λ q=>by rw[<-q,hh]at nz;exact ns nz
  have ol:∀{i l},H.ls i=some l->cb.ls i=some l:=λ{i l} h=>(O2<|i+1).ls i l (Nat.succ_ne_self i).symm h;have Gu:∀t∈TL,t.a≠16:=λ t J q=>(fg nd.2.1).2.2 _ (bU J) 16 m1 q;have ht:∀t∈TL,t.r≠16:=λ t J q=>B.nr t J (by rw[q];exact aF<|aF m1);have MP:∀e∈EL,e.at 0 cb/\cb.ls e.w=some []:=λ e O=>⟨(O2 0).ob _ _ (lO e O) (el e O).1,ol (el e O).2⟩;refine(iB (Q1 cb EL) (Q2 cb hs z' k EL Od R TL) ⟨⟨Od,rfl,λ e O=>pE.mem_iff.mp O⟩,rfl⟩ ⟨λ Q H' h=>?_,λ Q H' h=>?_,λ p Q H' st m h M=>?_⟩ (λ d9 h=>?_) ⟨λ Q H' h=>b8 h λ _ _ _ r=>r.dy.cn.jU,λ Q H' h=>b8 h λ _ _ _ r=>r.lk,λ p Q H' st m h M=>?_⟩ (λ p Q H' h=>?_)<|λ fu h=>?_)
  .rw[h.2];exact K2.jU
  .rw[h.2];exact hk
  .refine xA h λ z0 z1=>?_;clear K2 O2 hk ol h;obtain⟨EQ,e1,e2⟩:=z0;subst z1;cases EQ with
   |nil=>cases e1
   |cons e EQ=>
    cases e1;refine bc (wm (cr:=cr) M (MP e<|e2 e<|.head _).1 rfl rfl<|m+8) λ ab g1 g2 g3=>?_;exact⟨ab,_,g1,g2,g3,⟨EQ,rfl,λ f hf=>e2 f<|.tail _ hf⟩,rfl⟩
  .refine xA h λ _ z1=>?_;clear h;subst z1;refine⟨Od,[],rfl,λ e O=>pE.mem_iff.mp O,(pE.map _).nodup_iff.mpr nd.1,⟨K2,λ e O=>MP e<|pE.mem_iff.mp O,λ t J=>?_⟩,?_,λ t J=>?_,hk,ol hh,.refl⟩
   .refine ib (th t J) λ a1 a2 a3=>?_;rw[lR<|List.Perm.append_right R pE];exact⟨(O2 0).ob _ _ (Gu t J) a1,(O2 0).ob _ _ (ht t J) a2,ol a3⟩
   .refine .of_eq (List.filter_eq_nil_iff.mpr λ t J=>?_).symm;rw[lR<|List.Perm.append_right R pE];exact QO (Bf t J)
   .exact lR (List.Perm.append_right R pE) t▸Rr (Bf t J)
  .refine b8 h λ EQ Z e1 r=>?_;clear h;cases EQ with
   |nil=>cases e1
   |cons e EQ=>
    cases e1;have e3:=jG r.nd;have lZ:Z.length<=1000:=by
     rw[r.pz.length_eq];exact ae (List.length_filter_le _ _) (ae sT (by decide))
    refine fZ (HR (cr:=cr) B (r.sub e<|.head _) (λ f hf=>⟨r.sub f<|.tail _ hf,λ q=>e3.1<|List.mem_map.mpr ⟨f,hf,q⟩⟩) M r.dy r.pz r.c2 ⟨λ f hf=>lw (el f hf).2,λ t J=>lw (th t J).2.2⟩ lZ<|m+20) λ ab OU Z' g1 g2 g3 Y' XR O'=>?_;refine⟨ab,OU,g1,g2,g3,EQ,Z',rfl,λ f hf=>r.sub f<|.tail _ hf,e3.2,Y',XR,λ t J=>?_,O'.ls _ _ kz r.lk,O'.ls _ _ BU r.hh,r.out.trans ⟨λ x y p h=>O'.ob x y (λ q=>p ?_) h,O'.ls,O'.fx⟩⟩
    .exact ae (cnt_cons t e (EQ++R)▸bL _ _) (r.c2 t J)
    .rcases q with q|q
     .exact .inl ⟨e,r.sub e<|.head _,q⟩
     .exact .inr q
  .refine b8 h λ EQ Z e1 r=>?_;clear h;cases EQ with
   |nil=>cases e1
   |cons e EQ=>cases e1;exact(fc 66 _ (r.dy.el e<|.head _).1 rfl rfl)
  .refine b8 h λ EQ Z e1 r=>?_;clear h;cases EQ with|nil=>exact⟨z',Z,nz,r.dy.cn,r.pz,λ t J=>⟨(r.dy.th t J).1,(r.dy.th t J).2.2⟩,r.hh,Lb O2 r.out nz (λ x h=>.inl h) λ x h=>.inr h⟩|cons e EQ=>cases e1
structure R1(d9:Hp)(z' k A:Nat)(nA:Int)(EL:List Ev)(H':Hp):Prop where
 cn:Cn H' z' (EL.map λ e=>.r e.a)
 el:∀e∈EL,e.at 0 H'
 lk:H'.ls k=some (cS [(nA,A)])
 out:o0 (λ x=>x=A\/FQ EL x) z' d9 H'
theorem K0(B:Bs EL TL A)(F:Fr D aH L es [] H st)(h5:lk 5 es=some (.r 17))(nX:lk 216 es=some (.i 0 0))(K:Cn H z [.r A])(hA:H.ob A=some (85,j9 nA 0 (.s cA) wA false false it))(hw:H.ls wA=some [])(hit:H.ls it=some (EL.map λ e=>.r e.a))(el:∀e∈EL,e.at 1 H)(hh:H.ls 10=some hs)(l1:wA≠10)(l2:it≠10)(sz:EL.length<=20)(sh:hs.length<=1000)(hg:1<=g):
  ∃ab f8 H',(ev (bI cr)<|g+95).W L [] oS ww st=(ev (bI cr)<|g+94).W L [] oS ww ab/\Fr D aH L f8 [] H' ab/\J1 H hs EL A nA H'/\lk 5 f8=some (.r 17)/\lk 216 f8=some (.i 0 0):=by
 have nd:=fg B.nd;refine xA (X_ (fg nd.2.1).2.1) λ Fq FY=>?_;have eA:∀e∈EL,e.a≠A:=λ e J q=>nd.2.2 _ (bU J) A (aF m0) q;have lO:∀e∈EL,e.a≠16:=λ e J q=>nd.2.2 _ (bU J) 16 (aF m1) q;have xf:∀e∈EL,e.a≠17:=λ e J q=>nd.2.2 _ (bU J) 17 (aF m2) q;refine oY (P:=[(nA,A)]) (Post:=J1 H hs EL A nA) F h5 nX K (List.cons_ne_nil _ _) (by simp) (λ p hp=>?_) (Nat.succ_le_succ<|dp _) hg λ k z' P' cb pP K2 hk kz n1 n2 O=>?_
 .rw[List.mem_singleton.mp hp];exact(fN 85 _ hA rfl rfl rfl)
 .rw[List.perm_singleton.mp pP]at hk⊢;have nz:H.ls z'=none:=F.md.jZ n2;have BU:z'≠10:=λ q=>by rw[q,hh]at nz;exact ns nz
  have RK:k≠10:=λ q=>by have:=F.md.jZ n1;rw[q,hh]at this;exact ns this
  have ol:∀{i l},H.ls i=some l->cb.ls i=some l:=λ{i l} h=>(O<|i+1).ls i l (Nat.succ_ne_self i).symm h;have he:cb.ob A=some (85,j9 nA 0 (.s cA) wA false false it):=(O 0).ob _ _ Fq.symm hA;obtain⟨d9,e3⟩:∃x,x=(cb.so A 85<|j9 nA 0 (.s cA) wA true false it).sl 10 (hs++[.i 0 nA]):=⟨_,rfl⟩;have K3:Cn d9 z' []:=e3▸(K2.so FY Fq _ _).sl BU _;have k3:d9.ls k=some (cS [(nA,A)]):=by rw[e3];exact(di RK).trans hk
  have A3:d9.ob A=some (85,j9 nA 0 (.s cA) wA true false it):=by rw[e3];exact cF (H:=cb)
  have O3:o0 (λ x=>x=A) 10 cb d9:=e3▸(o0.so (P:=λ x=>x=A) rfl).trans .I4;refine(iB (λ Q H'=>Q=[(nA,A)]/\H'=cb\/Q=[]/\H'=d9) (λ Q H'=>Q=[(nA,A)]/\H'=d9\/Q=[]/\R1 d9 z' k A nA EL H') (.inl ⟨rfl,rfl⟩) ⟨λ Q H' h=>?_,λ Q H' h=>?_,λ p Q H' st m h M=>?_⟩ (λ H' h=>?_) ⟨λ Q H' h=>?_,λ Q H' h=>?_,λ p Q H' st m h M=>?_⟩ (λ p Q H' h=>?_)<|λ fu h=>?_)
  .exact h.elim (λ h=>h.2▸K2.jU) λ h=>h.2▸K3.jU
  .exact h.elim (λ h=>h.2▸hk) λ h=>h.2▸k3
  .rcases h with⟨e,rfl⟩|⟨e,_⟩
   .cases e;refine bc (qd (cr:=cr) M K2 he rfl rfl rfl rfl (ol hh) (eh sh (by decide)) FY Fq (by exact a9 _) (show(8:Nat)<=500 by simp) (show(8:Nat)<=500 by simp) BU m) λ ab g1 g2 g3=>?_;exact(fN ab d9 g1 (e3▸g2) g3<|.inr ⟨rfl,rfl⟩)
   .cases e
  .rcases h with⟨e,_⟩|⟨_,rfl⟩
   .cases e
   .exact .inl ⟨rfl,rfl⟩
  .exact h.elim (λ h=>h.2▸K3.jU) λ h=>h.2.cn.jU
  .exact h.elim (λ h=>h.2▸k3) λ h=>h.2.lk
  .rcases h with⟨e,rfl⟩|⟨e,_⟩
   .cases e;have w3:∀{i l},i≠10->H.ls i=some l->H'.ls i=some l:=λ{i l} hi h=>O3.ls _ _ hi<|ol h;refine gd (Mw (cr:=cr) (EL:=EL) M K3 A3 (w3 l1 hw) (w3 l2 hit) FY Fq (λ e J=>⟨O3.ob _ _ (eA e J)<|(O 0).ob _ _ (lO e J)<|el e J,(xf e J).symm,(lO e J).symm,eA e J⟩) nd.1 (ae (cB<|Nat.zero_add _)<|ae sz (by decide)) (g:=m+20)<|ae sz<|Nat.le_add_left 20 m) λ ab fu g1 g2 g3 g4 g5 g6=>?_;exact(fN ab fu g1 g2 g3<|.inr ⟨rfl,by simpa using g4,g5,g6.ls _ _ kz k3,g6⟩)
   .cases e
  .rcases h with⟨e,rfl⟩|⟨e,_⟩
   .cases e;exact(fc 85 _ A3 rfl rfl)
   .cases e
  .rcases h with⟨e,_⟩|⟨_,h1,h2,_,O4⟩
   .cases e
   .refine⟨z',nz,h1,h2,O4.ls _ _ BU.symm (by rw[e3];exact dD),⟨λ x y p h=>O4.ob x y (λ q=>p<|.inr q)<|O3.ob x y (λ q=>p<|.inr<|.inl q)<|(O 0).ob x y (λ q=>p<|.inl q) h,λ i l hi h=>O4.ls i l (λ q=>by rw[q,nz]at h;exact nn h)<|O3.ls i l hi<|ol h,λ i o h=>O4.fx i o<|O3.fx i o<|(O 0).fx i o h⟩⟩
end
structure Po3(H:Hp)(hs:List AV)(Z:List Tv)(H':Hp)(z':Nat)(Z':List Tv):Prop where
 nz:H.ls z'=none
 pz:Z'.Perm Z
 cn:Cn H' z' []
 hh:H'.ls 10=some (hs++Z'.map λ t=>.i 0 t.n)
 out:o0 (λ x=>x=16\/qT Z x) 10 H H'
def JZ(H:Hp)(hs:List AV)(Z:List Tv)(H':Hp):Prop:=∃(z':Nat)(Z':List Tv),Po3 H hs Z H' z' Z'
structure R3(cb:Hp)(hs:List AV)(z' k:Nat)(Z Z' TQ DQ:List Tv)(H':Hp):Prop where
 ap:Z'=DQ++TQ
 tq:∀t∈TQ,H'.ob t.a=some (66,nO t 0 false)
 dq:∀t∈DQ,H'.ob t.a=some (66,nO t 0 true)
 hh:H'.ls 10=some (hs++DQ.map λ t=>.i 0 t.n)
 cn:Cn H' z' []
 lk:H'.ls k=some (cS<|Z'.map rf)
 out:o0 (qT Z) 10 cb H'
structure R4(cb:Hp)(hs:List AV)(z' k:Nat)(Z Z' TQ:List Tv)(H':Hp):Prop where
 tq:∀t∈TQ,t∈Z/\H'.ob t.a=some (66,nO t 0 true)
 nd:(TQ.map (·.a)).Nodup
 hh:H'.ls 10=some (hs++Z'.map λ t=>.i 0 t.n)
 cn:Cn H' z' []
 lk:H'.ls k=some (cS<|Z'.map rf)
 out:o0 (qT Z) 10 cb H'
def Q3(cb:Hp)(hs:List AV)(z' k:Nat)(Z Z':List Tv)(Q:List<|Int×Nat)(H':Hp):Prop:=∃TQ DQ:List Tv,Q=TQ.map rf/\R3 cb hs z' k Z Z' TQ DQ H'
def Q4(cb:Hp)(hs:List AV)(z' k:Nat)(Z Z':List Tv)(Q:List<|Int×Nat)(H':Hp):Prop:=∃TQ:List Tv,Q=TQ.map rf/\R4 cb hs z' k Z Z' TQ H'
section
variable{D:Nat->Prop}{a z A L k it:Nat}{R:List Ev}{Z:List Tv}{hs:List AV}{g:Nat}
theorem KY(zn:(Z.map (·.n)).Nodup)(za:(Z.map (·.a)).Nodup)(F_:∀t∈Z,t.a≠16/\t.a≠17)(F:Fr D aH L es [] H st)(h5:lk 5 es=some (.r 17))(nX:lk 216 es=some (.i 0 0))(K:Cn H z<|Z.map λ t=>.r t.a)(ne:Z≠[])(th:∀t∈Z,H.ob t.a=some (66,nO t 0 false)/\H.ls t.w=some [])(tw:∀t∈Z,t.w≠10)(hh:H.ls 10=some hs)(sz:Z.length<=20)(sh:hs.length<=1000)(hg:Z.length<=g):
  ∃ab f8 H',(ev (bI cr)<|g+95).W L [] oS ww st=(ev (bI cr)<|g+94).W L [] oS ww ab/\Fr D aH L f8 [] H' ab/\JZ H hs Z H'/\lk 5 f8=some (.r 17)/\lk 216 f8=some (.i 0 0):=by
 have rZ:cS (Z.map rf)=Z.map λ t=>.r t.a:=by exact List.map_map
 refine oY (P:=Z.map rf) (Post:=JZ H hs Z) F h5 nX (by rw[rZ];exact K) (λ q=>ne<|List.map_eq_nil_iff.mp q) (by rw[List.map_map];exact zn) (λ p hp=>?_) (vZ<|ae sz (by decide)) (vZ hg) λ k z' P' cb pP K2 hk kz n1 n2 O2=>?_
 .refine a8 (eV hp) λ t O z2=>?_;clear hp;subst z2;exact(fN 66 _ (th t O).1 rfl rfl rfl)
 .refine a8 (iO pP) λ Z' pZ z2=>?_;clear pP;subst z2;have nz:H.ls z'=none:=F.md.jZ n2;have BU:z'≠10:=λ q=>by rw[q,hh]at nz;exact ns nz
  have RK:k≠10:=λ q=>by have:=F.md.jZ n1;rw[q,hh]at this;exact ns this
  have ol:∀{i l},H.ls i=some l->cb.ls i=some l:=λ{i l} h=>(O2<|i+1).ls i l (Nat.succ_ne_self i).symm h;have Og:∀t∈Z',cb.ob t.a=some (66,nO t 0 false):=λ t O=>(O2 0).ob _ _ (F_ t<|pZ.mem_iff.mp O).1 (th t<|pZ.mem_iff.mp O).1;have A_:(Z'.map (·.a)).Nodup:=(pZ.map _).nodup_iff.mpr za;have lZ:=pZ.length_eq;refine(iB (Q3 cb hs z' k Z Z') (Q4 cb hs z' k Z Z') ⟨Z',[],rfl,rfl,Og,λ t O=>(nomatch O),by simpa using ol hh,K2,hk,.refl⟩ ⟨λ Q H' h=>b8 h λ _ _ _ r=>r.cn.jU,λ Q H' h=>b8 h λ _ _ _ r=>r.lk,λ p Q H' st m h M=>?_⟩ (λ d9 h=>?_) ⟨λ Q H' h=>a8 h λ _ _ r=>r.cn.jU,λ Q H' h=>a8 h λ _ _ r=>r.lk,λ p Q H' st m h M=>?_⟩ (λ p Q H' h=>?_)<|λ fu h=>?_)
  .refine b8 h λ TQ DQ J r=>?_;clear h;cases TQ with
   |nil=>cases J
   |cons t TQ=>
    cases J;have O:t∈Z':=by rw[r.ap];exact aF m0
    have B:=pZ.mem_iff.mp O;have lD:DQ.length<=20:=ae (ae (bL _ _)<|cB<|List.length_append.symm.trans<|congrArg List.length r.ap.symm)<|lZ▸sz;refine bc (qd (cr:=cr) M r.cn (r.tq t<|.head _) rfl rfl rfl rfl r.hh (Nat.succ_le_of_lt<|eh (cB<|List.length_append.trans<|congrArg (hs.length+ ·)<|List.length_map _)<|eh (dK sh lD) (by decide)) (F_ t B).2.symm (F_ t B).1.symm (by exact a9 _) (show(8:Nat)<=500 by simp) (show(8:Nat)<=500 by simp) BU m) λ ab g1 g2 g3=>?_;have nd:=A_;rw[r.ap,List.map_append,List.map_cons,List.nodup_append,List.nodup_cons]at nd;have O3:o0 (λ x=>qT Z x) 10 H' ((H'.so t.a 66<|nO t 0 true).sl 10<|(hs++DQ.map λ t:Tv=>AV.i 0 t.n)++[AV.i 0 t.n]):=(o0.so (P:=λ x=>qT Z x) ⟨t,B,rfl⟩).trans .I4;refine⟨ab,(H'.so t.a 66<|nO t 0 true).sl 10<|(hs++DQ.map λ t:Tv=>AV.i 0 t.n)++[AV.i 0 t.n],g1,g2,g3,TQ,DQ++[t],rfl,by rw[r.ap];simp,λ s uD=>?_,λ s uD=>?_,?_,(r.cn.so (F_ t B).2.symm (F_ t B).1.symm _ _).sl BU _,(di RK).trans r.lk,r.out.trans O3⟩
    .exact(dh (show s.a≠t.a from λ q=>nd.2.1.1<|List.mem_map.mpr ⟨s,uD,q⟩)).trans (r.tq s<|.tail _ uD)
    .rcases dc uD with h|h
     .exact(dh<|nd.2.2 _ (bU h) _<|.head _).trans (r.dq s h)
     .rw[List.mem_singleton.mp h];exact cF (H:=H')
    .rw[List.map_append,<-List.append_assoc];exact dD
  .refine b8 h λ TQ DQ J r=>?_;cases TQ with
   |nil=>
    have e2:=r.ap;rw[List.append_nil]at e2;cases e2;exact⟨Z',rfl,λ t O=>⟨pZ.mem_iff.mp O,r.dq t O⟩,A_,r.hh,r.cn,r.lk,r.out⟩
   |cons _ _=>cases J
  .refine a8 h λ TQ J r=>?_;clear h;cases TQ with
   |nil=>cases J
   |cons t TQ=>
    cases J;have e3:=jG r.nd;refine xA (r.tq t<|.head _) λ B ob=>?_;have hw:H'.ls t.w=some []:=r.out.ls _ _ (tw t B)<|ol (th t B).2;refine bc (tV (cr:=cr) (H':=H'.del t.a) M r.cn ob hw (F_ t B).2.symm (F_ t B).1.symm (λ k st m M'=>by
     refine bc (vn (cr:=cr) (u:=.r t.a) (v:=.i 0 t.k) M' (λ _=>rfl)<|m+8) λ ab g1 g2 g3=>?_;exact(jQ ab _ g1 g2 g3 cF<|t9 (λ x hx=>(dh hx).symm) rfl rfl))<|m+20) λ ab g1 g2 g3=>?_
    exact⟨ab,_,g1,g2,g3,TQ,rfl,λ s uD=>⟨(r.tq s<|.tail _ uD).1,(dC (show s.a≠t.a from λ q=>e3.1<|List.mem_map.mpr ⟨s,uD,q⟩)).trans (r.tq s<|.tail _ uD).2⟩,e3.2,r.hh,r.cn.out (o0.del (P:=λ x=>x=t.a) rfl) (F_ t B).2.symm (F_ t B).1.symm r.cn.lz,r.lk,r.out.trans<|.del ⟨t,B,rfl⟩⟩
  .refine a8 h λ TQ J r=>?_;clear h;cases TQ with
   |nil=>cases J
   |cons t TQ=>cases J;exact(fc 66 _ (r.tq t<|.head _).2 rfl rfl)
  .refine a8 h λ TQ J r=>?_;exact⟨z',Z',nz,pZ,r.cn,r.hh,⟨λ x y p h=>r.out.ob x y (λ q=>p<|.inr q)<|(O2 0).ob x y (λ q=>p<|.inl q) h,λ i l hi h=>r.out.ls i l hi<|ol h,λ i o h=>r.out.fx i o<|(O2 0).fx i o h⟩⟩
structure PoS(H:Hp)(hs:List AV)(nA:Int)(EL R:List Ev)(TL:List Tv)(A:Nat)(H':Hp)(z':Nat)(dd:List Tv):Prop where
 nz:H.ls z'=none
 pz:dd.Perm (sK TL R)
 cn:Cn H' z' []
 hh:H'.ls 10=some ((hs++[.i 0 nA])++dd.map λ t=>.i 0 t.n)
 th:∀t∈TL,cnt t R≠0->H'.ob t.a=some (66,nO t (cnt t R) false)
 out:o0 (λ x=>x=16\/x=A\/RT EL TL x) 10 H H'
def Vh(H:Hp)(hs:List AV)(nA:Int)(EL R:List Ev)(TL:List Tv)(A:Nat)(H':Hp):Prop:=∃(z':Nat)(dd:List Tv),PoS H hs nA EL R TL A H' z' dd
theorem Cz(B:Bs EL TL A)(M:Md D st H)(K:Cn H z [.r A])(hA:H.ob A=some (85,j9 nA 0 (.s cA) wA false false it))(hw:H.ls wA=some [])(hit:H.ls it=some (EL.map λ e=>.r e.a))(el:∀e∈EL,e.at 1 H/\H.ls e.w=some [])(hh:H.ls 10=some hs)(l1:wA≠10)(l2:it≠10)(th:∀t∈TL,H.ob t.a=some (66,nO t (cnt t<|EL++R) false)/\H.ob t.r=some (162,[(27,.r t.a),(28,.b false)])/\H.ls t.w=some [])(Bf:∀t∈TL,cnt t (EL++R)=1\/cnt t (EL++R)=2)(nn:(EL.map (·.n)).Nodup)(tn:(TL.map (·.n)).Nodup)(ew:∀e∈EL,e.w≠10)(tw:∀t∈TL,t.w≠10)(sz:EL.length<=20)(sT:TL.length<=20)(sh:hs.length<=900)(m:Nat):
  ∃ab H',(ev (bI cr)<|m+120).C 1089 [.r 17,.i 0 0] [] st=some (.none,ab)/\Md D ab H'/\Go D st ab/\Vh H hs nA EL R TL A H':=by
 refine a8 (dB (X:=bI cr) (m:=m+119) (cs:=[]) (fa:=1089) (f:=JH) (as:=[.r 17,.i 0 0]) (bs:=[(5,.r 17),(216,.i 0 0)]) M (by kernel_rfl) rfl rfl) λ ac F e=>?_;have nd:=fg B.nd;have FO:=fg nd.2.1;have wr:∀{af},(ev (bI cr)<|m+118).W st.nx [] oS ww ac=some (.d6,af)->(ev (bI cr)<|m+120).C 1089 [.r 17,.i 0 0] [] st=some (.none,af):=λ h=>o9 e<|Ve (m:=m+118) h bw;have stop:∀{q:Nat}{es:List<|Nat×AV}{H:Hp}{af:St}{z:Nat},Fr D st st.nx es [] H af->lk 5 es=some (.r 17)->lk 216 es=some (.i 0 0)->Cn H z []->(ev (bI cr)<|q+9).W st.nx [] oS ww af=some (.d6,af):=λ{q es H af z} F a b K=>W_F (m:=q+8) (oX F a b K q) rfl;refine bA (K0 (cr:=cr) (g:=m+23) B F rfl rfl K hA hw hit (λ e O=>(el e O).1) hh l1 l2 sz (ae sh (by decide))<|Nat.le_add_left 1 _) λ af ED cb e2 F2 z5 a2 b2=>?_;clear hit e;obtain⟨z2,Ll,K2,MP,ZA,VW⟩:=z5;have eA:∀t∈TL,t.a≠16/\t.a≠17/\t.a≠A/\∀e∈EL,t.a≠e.a:=λ t J=>⟨FO.2.2 _ (bU J) 16 m1,FO.2.2 _ (bU J) 17 m2,FO.2.2 _ (bU J) A m0,λ e O q=>nd.2.2 _ (bU O) _ (aU<|bU J) q.symm⟩;have h3:∀t∈TL,¬(t.a=16\/t.a=A\/FQ EL t.a):=λ t J q=>by
  refine iI (eA t J) λ x1 _ x2 x3=>?_;rcases q with q|q|⟨e,O,q⟩
  .exact x1 q
  .exact x2 q
  .exact x3 e O q
 have h0:∀t∈TL,¬(t.r=16\/t.r=A\/FQ EL t.r):=λ t J q=>by
  refine B.nr t J ?_;rcases q with q|q|⟨e,O,q⟩
  .rw[q];exact aF (aF m1)
  .rw[q];exact aF (aF m0)
  .rw[q];exact aU (bU O)
 have Og:∀t∈TL,cb.ob t.a=some (66,nO t (cnt t<|EL++R) false)/\cb.ob t.r=some (162,[(27,.r t.a),(28,.b false)])/\cb.ls t.w=some []:=λ t J=>by
  refine ib (th t J) λ x1 x2 x3=>?_;exact⟨VW.ob _ _ (h3 t J) x1,VW.ob _ _ (h0 t J) x2,VW.ls _ _ (tw t J) x3⟩
 have he:o0 (λ x=>x=16\/x=A\/FQ EL x\/qT TL x) 10 H cb:=⟨λ x y p h=>VW.ob x y (λ q=>p (by rcases q with q|q|q<;>simp[q])) h,VW.ls,VW.fx⟩;by_cases hE:EL=[]
 .clear B el th nn ew sz nd MP VW eA h3 h0;subst hE;refine⟨af,cb,wr<|e2.trans<|stop (q:=m+108) F2 a2 b2 K2,F2.md,F2.go,z2,[],Ll,?_,K2,by simpa using ZA,λ t J _=>(Og t J).1,he⟩;refine .of_eq (List.filter_eq_nil_iff.mpr λ t J=>?_).symm;exact QO (Bf t J)
 .refine bA (KZ (cr:=cr) (g:=m+22) B F2 a2 b2 K2 hE nn (λ e O=>⟨MP e O,VW.ls _ _ (ew e O) (el e O).2⟩) Og Bf ZA sz (ae sT (by decide))<|ae sz<|ae (by decide)<|Nat.le_add_left 22 m) λ aJ Tp d9 e3 F3 z5 a3 b3=>?_;obtain⟨z3,Z,VX,K3,pZ,Xa,Zz,O3⟩:=z5;have X1:H.ls z3=none:=by
   cases q:H.ls z3 with|none=>rfl|some l=>rw[VW.ls z3 l (λ q=>by rw[q,ZA]at VX;exact ns VX) q]at VX;exact ns VX
  have ht:o0 (λ x=>x=16\/x=A\/FQ EL x\/qT TL x) 10 H d9:=he.trans ⟨λ x y p h=>(O3 10).ob x y (λ q=>p (by rcases q with q|q|q<;>simp[q])) h,(O3 10).ls,(O3 10).fx⟩;have hZ:∀t∈Z,t∈TL/\cnt t R=0:=λ t J=>by
   have:=List.mem_filter.mp<|pZ.mem_iff.mp J;exact⟨this.1,by simpa using this.2⟩
  have lZ:Z.length<=TL.length:=by rw[pZ.length_eq];exact List.length_filter_le _ _
  by_cases O2:Z=[]
  .clear hZ lZ;subst O2;exact⟨aJ,d9,wr<|e2.trans<|e3.trans<|stop (q:=m+107) F3 a3 b3 K3,F3.md,F3.go,z3,[],X1,pZ,K3,by simpa using Zz,λ t J _=>(Xa t J).1,ht⟩
  .have sub:(sK TL R).Sublist TL:=List.filter_sublist;refine bA (KY (cr:=cr) (g:=m+21) (((pZ.map _).nodup_iff).mpr<|tn.sublist<|sub.map _) (((pZ.map _).nodup_iff).mpr<|FO.1.sublist<|sub.map _) (λ t J=>⟨(eA t (hZ t J).1).1,(eA t (hZ t J).1).2.1⟩) F3 a3 b3 K3 O2 (λ t J=>by
     refine xA (Xa t (hZ t J).1) λ x1 x2=>?_;rw[(hZ t J).2]at x1;exact⟨x1,x2⟩) (λ t J=>tw t (hZ t J).1) Zz (ae lZ sT) (by simp;exact ae sh (by decide))<|ae (ae lZ sT)<|ae (by decide)<|Nat.le_add_left 21 m) λ bk zF fu e4 F4 z5 a4 b4=>?_;obtain⟨z4,Z',h4,XR,K4,h5,O4⟩:=z5
   have XZ:H.ls z4=none:=by
    cases q:H.ls z4 with|none=>rfl|some l=>rw[ht.ls z4 l (λ q=>by rw[q,Zz]at h4;exact ns h4) q]at h4;exact ns h4
   refine⟨bk,fu,wr<|e2.trans<|e3.trans<|e4.trans<|stop (q:=m+106) F4 a4 b4 K4,F4.md,F4.go,z4,Z',XZ,XR.trans pZ,K4,h5,λ t J hc=>?_,ht.trans ⟨λ x y p h=>O4.ob x y (λ q=>p ?_) h,O4.ls,O4.fx⟩⟩
   .refine O4.ob _ _ (λ q=>?_) (Xa t J).1;rcases q with q|⟨s,uD,q⟩
    .exact(eA t J).1 q
    .have:=fm (f:=λ t:Tv=>t.a) FO.1 t J s (hZ s uD).1 q;exact hc (by rw[this];exact(hZ s uD).2)
   .rcases q with q|⟨s,uD,q⟩
    .exact .inl q
    .exact .inr (.inr<|.inr ⟨s,(hZ s uD).1,q⟩)
end
noncomputable def kt:List (Nat×AV):=[(55,.r 16),(48,.r 17),(84,.r 18),(29,.r 19),(85,.r 20),(86,.r 21),(87,.r 22),(88,.r 23),(89,.r 24),(90,.r 25),(91,.r 26),(76,.r 27),(92,.r 28),(72,.none),(93,.r 29),(94,.i 908 0),(95,.r 30),(96,.none),(97,.none)]
structure Rn(H:Hp):Prop where
 o8:H.ob 8=some (604,kt)
 Wc:H.ls 28=some [.r 36]
 Oy:∃es,H.ob 36=some (809,es)/\lk 70 es=some (.r 54)
 Yz:H.ls 54=some [.r 66,.r 67]
 Ul:H.fx 21=some (.dict [(.s 162,.g 1174)])
 YC:H.ls 27=some []
section
variable{X:Env}{m L:Nat}{cs:Cs}{e:IE}{as:List IE}{vs:List AV}{r:Option<|AV×St}
theorem IP(h0:(ev X m).E L cs e st=some (.g fa,ac))(hc:X.cl.get fa=none)(lt:Nat.blt fa 1358=true)(h1:(ev X m).Es L cs as ac=some (vs,af))(h2:(ev X m).C fa vs [] af=r):(ev X<|m+1).E L cs (.call e as) st=r:=by
 show bF ((ev X m).E L cs e st) (λ f st=>bF ((ev X m).Es L cs as st) λ as st=>mZ X (ev X m) f as st)=_;rw[h0,cz,h1,cz];show Ca X (ev X m) fa vs af=r;unfold Ca;rw[hc];dsimp only;rw[lt];exact h2
end
variable{wP:Nat}{nP:Int}
section
variable{D:Nat->Prop}{a z A L k q t pl p it:Nat}{cA:AV}{u:AV}
theorem Bh(h:st.T.get 21=some (.dict [(.s 162,.g 1174)])):yg (bI cr) (.r 21) (.s 162) st=some (.g 1174):=by
 show bd (st.T.get 21) _=_;rw[h];rfl
theorem Yo(M:Md D st H)(W:Rn H)(hp:p=0/\pl=66\/p=1/\pl=67)(ho:H.ob pl=some (66,es))(yN:lk 11 es=some (.b false))(m:Nat):∃ab,(ev (bI cr)<|m+30).C 1153 [.r 8,.t [.s 162,.i 0 (p:Nat)]] [] st=some (.r pl,ab)/\Md D ab H/\Go D st ab:=by
 refine a8 (dB (X:=bI cr) (m:=m+29) (cs:=[]) (fa:=1153) (f:=JG) (as:=[.r 8,.t [.s 162,.i 0 (p:Nat)]]) (bs:=[(63,.r 8),(98,.t [.s 162,.i 0 (p:Nat)])]) M (by kernel_rfl) rfl rfl) λ ac B e1=>?_;refine a8 (dB (X:=bI cr) (m:=m+25) (cs:=[]) (fa:=1174) (f:=JD) (as:=[.r 8,.t [.s 162,.i 0 (p:Nat)]]) (bs:=[(63,.r 8),(98,.t [.s 162,.i 0 (p:Nat)])]) B.md (by kernel_rfl) rfl rfl) λ af IJ e2=>?_;refine a8 (dB (X:=bI cr) (m:=m+22) (cs:=[]) (fa:=1167) (f:=JE) (as:=[.r 8,.i 0 (p:Nat),.s 275]) (bs:=[(63,.r 8),(71,.i 0 (p:Nat)),(268,.s 275)]) IJ.md (by kernel_rfl) rfl rfl) λ aJ O e3=>?_;have og:=O.asg [(63,.r 8),(71,.i 0 (p:Nat)),(268,.s 275),(70,.r 54)];refine a8 (dB (X:=bI cr) (m:=m+18) (cs:=[]) (fa:=1160) (f:=JF) (as:=[.r pl]) (bs:=[(64,.r pl)]) og.md (by kernel_rfl) rfl rfl) λ fb J e5=>?_;refine a8 W.Oy λ Tq Oy Yy=>?_;have sub:∀{st:St} n,Fr D af af.nx [(63,.r 8),(71,.i 0 (p:Nat)),(268,.s 275),(70,.r 54)] [] H st->(ev (bI cr)<|n+2).E af.nx [] (.sub (.l 70)<|.l 71) st=some (.r pl,st):=λ{st} n F=>ki (m:=n+1) (F.E rfl) (F.E rfl)<|jR (k:=p) (F.md.ls _ _ W.Yz) (by clear ho B e1 IJ e2 O e3 og J e5 F;rcases hp with⟨rfl,rfl⟩|⟨rfl,rfl⟩<;>rfl) (by decide);have C5:(ev (bI cr)<|m+19).C 1160 [.r pl] [] (im af.nx (.ns [(63,.r 8),(71,.i 0 (p:Nat)),(268,.s 275),(70,.r 54)]) aJ)=some (.b false,fb):=by
  exact nS e5 (jH (m:=m+17)<|rP (m:=m+16) (dZ (m:=m+15) (y:=false) (J.E rfl) rfl rfl) rfl<|FC (m:=m+15)<|bR (m:=m+14) (J.E rfl) (J.Ob ho) yN)
 have Vq:=og.kX J.md J.go;have C3:(ev (bI cr)<|m+23).C 1167 [.r 8,.i 0 (p:Nat),.s 275] [] af=some (.r pl,fb):=by
  exact nS e3 (gD (m:=m+21) (bR (m:=m+20) (ki (m:=m+19) (v:=.r 36) (bR (m:=m+18) (O.E rfl) (O.Ob W.o8) rfl) (b:=.i 0 (-1)) rfl (show bd (aJ.T.get 28) _=_ by rw[O.md.ls _ _ W.Wc];rfl)) (O.Ob Oy) Yy) O.loc
    (er (m:=m+20) (y:=false) (dF (m:=m+18) (by kernel_rfl) rfl (aP (m:=m+18) (sub (m+16) og) bz) C5) rfl rfl<|jH (m:=m+19)<|sub (m+17) Vq))
 have C2:(ev (bI cr)<|m+26).C 1174 [.r 8,.t [.s 162,.i 0 (p:Nat)]] [] ac=some (.r pl,fb):=by
  exact nS e2 (jH (m:=m+24)<|dF (m:=m+22) (by kernel_rfl) rfl (aP (m:=m+22) (IJ.E rfl)<|aP (m:=m+21) (ki (m:=m+20) (IJ.E rfl) (b:=.i 0 1) rfl rfl)<|aP (m:=m+20) (v:=.s 275) rfl bz) C3)
 refine(cC fb ?_ J.md<|B.go.trans<|IJ.go.trans Vq.go);have Ul:=(B.md.fx _ _ W.Ul).1;exact nS e1 (er (m:=m+28) (y:=false) (dZ (m:=m+27) (ki (m:=m+26) (B.E rfl) (b:=.i 0 0) (v:=.s 162) rfl rfl) (bR (m:=m+26) (B.E rfl) (B.Ob W.o8) rfl) (show neg (bd (ac.T.get 21) _)=_ by rw[Ul];rfl)) rfl bw
   (jH (m:=m+27)<|IP (m:=m+26) (ki (m:=m+25) (bR (m:=m+24) (B.E rfl) (B.Ob W.o8) rfl) (ki (m:=m+24) (B.E rfl) (b:=.i 0 0) (v:=.s 162) rfl rfl)<|Bh Ul) (by kernel_rfl) rfl (aP (m:=m+25) (B.E rfl)<|aP (m:=m+24) (B.E rfl) bz) C2))
theorem Pd(M:Md D st H)(hv:∀T,zp (bI cr) T v (.g 162)=some false)(m:Nat):∃ab,(ev (bI cr)<|m+12).C 1056 [.r 17,v] [] st=some (v,ab)/\Md D ab H/\Go D st ab:=by
 refine a8 (dB (X:=bI cr) (m:=m+11) (cs:=[]) (fa:=1056) (f:=JK) (as:=[.r 17,v]) (bs:=[(5,.r 17),(12,v)]) M (by kernel_rfl) rfl rfl) λ ac F e=>?_;refine(cC ac ?_ F.md F.go);exact nS e<|Ft (m:=m+10) (y:=true) (nM (m:=m+9) (gR (m:=m+5) (F.E rfl)<|hv _) rfl) rfl<|jH (m:=m+9)<|F.E rfl
theorem Gx(M:Md D st H)(K:Cn H z zs)(ho:H.ob pl=some (66,jw nP 1 u wP false false<|.r q))(hq:H.ob q=some (162,[(27,.r A),(28,.b false)]))(hA:H.ob A=some (85,j9 nA 1 cA wA false false it))(hz:zs.length+1<=4000)(VM:17≠pl)(VN:16≠pl)(FY:17≠A)(Fq:16≠A)(qp:q≠pl)(ap:A≠pl)(m:Nat):
  ∃ab,(ev (bI cr)<|m+40).C 1068 [.r 17,.r pl,.none] [] st=some (.none,ab)/\Md D ab (((H.so pl 66<|jw nP 1 u wP false false .none).so A 85<|j9 nA 0 cA wA false false it).sl z<|zs++[.r A])/\Go D st ab:=by
 refine a8 (dB (X:=bI cr) (m:=m+39) (cs:=[]) (fa:=1068) (f:=JI) (as:=[.r 17,.r pl,.none]) (bs:=[(5,.r 17),(23,.r pl),(12,.none)]) M (by kernel_rfl) rfl rfl) λ ac F e=>?_;have F2:=F.asg [(5,.r 17),(23,.r pl),(12,.none),(259,.r q)];refine bc (Pd (cr:=cr) (v:=.none) F2.md (λ _=>rfl)<|m+21) λ aJ e3 M3 G3=>?_;have O:=F2.kX M3 G3;refine bc (O.gj ho (by simp[jw]) 12 .none) λ bk e4 B _=>?_;have B:Fr D st st.nx _ [] (H.so pl 66<|jw nP 1 u wP false false .none) bk:=B;have J:=K.so VM VN 66<|jw nP 1 u wP false false .none;refine bc (o_ (cr:=cr) (u:=.r pl) B.md J ((dh qp).trans hq) (m+12) λ st m M=>tA (cr:=cr) M J ((dh ap).trans hA) rfl FY Fq (by simp[j9]) hz m) λ fb e5 M5 G5=>?_;have F5:=B.kX M5 G5;refine(cC fb ?_ M5 F5.go);exact o9 e (ju (m:=m+38) (uq (m:=m+37) (bR (m:=m+36) (F.E rfl) (F.Ob K.jU) rfl) (F.md.fx _ _ K.Ii).1 (by kernel_rfl) (aP (m:=m+36) (bR (m:=m+35) (F.E rfl) (F.Ob ho) rfl)<|aP (m:=m+35) (v:=.none) rfl bz) (F.md.fx _ _ K.Ii).1)
  (ju (m:=m+37) (uq (m:=m+36) (bR (m:=m+35) (F.E rfl) (F.Ob K.jU) rfl) (F.md.fx _ _ K.Ig).1 (by kernel_rfl) (aP (m:=m+35) (bR (m:=m+34) (F.E rfl) (F.Ob ho) rfl)<|aP (m:=m+34) (v:=.none) rfl bz) (F.md.fx _ _ K.Ig).1)
  (er (m:=m+36) (y:=false) (dZ (m:=m+35) (bR (m:=m+34) (F.E rfl) (F.Ob ho) rfl) rfl rfl) rfl bw
  (gD (m:=m+35) (bR (m:=m+34) (F.E rfl) (F.Ob ho) rfl) F.loc
  (jd (m:=m+34) (je (m:=m+33) (F2.E rfl) (F2.Ob K.jU) rfl (by kernel_rfl) (aP (m:=m+32) (F2.E rfl) bz) e3) (O.E rfl) e4
  (ju (m:=m+33) (je (m:=m+32) (B.E rfl) (B.Ob J.jU) rfl (by kernel_rfl) (aP (m:=m+31) (B.E rfl)<|aP (m:=m+30) (B.E rfl) bz) e5) bw))))))
end
structure Hf(H:Hp)(z pl q A:Nat)(nP:Int)(wP:Nat)(nA:Int)(cA wA it:Nat)(EL R:List Ev)(TL:List Tv)(j0 j1:Nat)(xs ys:List AV)(N ρ hs:List Int):Prop where
 rn:Rn H
 cn:Cn H z []
 po:H.ob pl=some (66,jw nP 1 .none wP false false<|.r q)
 qo:H.ob q=some (162,[(27,.r A),(28,.b false)])
 ao:H.ob A=some (85,j9 nA 1 (.s cA) wA false false it)
 aw:H.ls wA=some []
 ai:H.ls it=some (EL.map λ e=>.r e.a)
 el:∀e∈EL,e.at 1 H/\H.ls e.w=some []
 th:∀t∈TL,H.ob t.a=some (66,nO t (cnt t<|EL++R) false)/\H.ob t.r=some (162,[(27,.r t.a),(28,.b false)])/\H.ls t.w=some []
 l3:H.ls 3=some (N.map lm)
 l5:H.ls 5=some (ρ.map lm)
 l4:H.ls 4=some [.r j0,.r j1]
 lx:H.ls j0=some xs
 ly:H.ls j1=some ys
 RA:H.ls 10=some (hs.map lm)
 bs:Bs EL TL A
 Bf:∀t∈TL,cnt t (EL++R)=1\/cnt t (EL++R)=2
 nn:(EL.map (·.n)).Nodup
 tn:(TL.map (·.n)).Nodup
 ne:∀x∈[8,16,17,36,q,A]++(EL.map (·.a)++(TL.map (·.a)++TL.map (·.r))),x≠pl
 n8:∀x∈[8,36],x∉EL.map (·.a)++(TL.map (·.a)++[A,16,17])
 lz:∀i∈[3,4,5,10,27,28,54,j0,j1,wA,it]++(EL.map (·.w)++TL.map (·.w)),i≠z
 lf:∀i∈[3,27,28,54,j0,j1,wA,it]++(EL.map (·.w)++TL.map (·.w)),i≠4/\i≠5/\i≠10
 sE:EL.length<=20
 sT:TL.length<=20
 sH:hs.length+TL.length<=50
 sG:ρ.length<=50
 sN:N.length<=50
 sR:xs.length+ys.length<=1000
def Eg:List IS:=[.asg (.l 332)<|.call (.cJ 276<|.g 1153) [.l 63,.tup [.c<|.s 162,.l 124]],.ex<|.bT (.l 264) 126 [.dg (.dg (.dg (.l 332) 12) 27) 6],.ex<|.bT (.dg (.l 63) 48) 79 [.l 332,.c .none],.ex<|.bT (.dg (.l 63) 48) 219 [.c<|.i 0 0],.mR (.l 122) (.l 124)<|.list [],y7]
structure Hd(H H':Hp)(z z' pl A:Nat)(nA:Int)(EL R:List Ev)(TL:List Tv)(j0 j1:Nat)(xs ys:List AV)(ρ hs:List Int)(dd:List Tv):Prop where
 cn:Cn H' z' []
 nz:H.ls z'=none
 pd:dd.Perm (sK TL R)
 l5:H'.ls 5=some ((ρ++[nA]).map lm)
 l4:H'.ls 4=some [.r j0,.r j1]
 lx:H'.ls j0=some xs
 ly:H'.ls j1=some ys
 lj:∀i∈[j0,j1],i≠4/\i≠5/\i≠10/\i≠z'
 RA:H'.ls 10=some (((hs++[nA])++dd.map (·.n)).map lm)
 th:∀t∈TL,cnt t R≠0->H'.ob t.a=some (66,nO t (cnt t R) false)
 ob:∀x y,x≠pl->x∉EL.map (·.a)++(TL.map (·.a)++[A,16,17])->H.ob x=some y->H'.ob x=some y
 ls:∀i l,i≠4->i≠5->i≠10->i≠z->H.ls i=some l->H'.ls i=some l
 fx:∀i o,H.fx i=some o->H'.fx i=some o
theorem Vs{X}{m L:Nat}{cs}{es}{vs}(h:(ev X m).Es L cs es st=some (vs,ac)):(ev X<|m+1).E L cs (.tup es) st=some (.t vs,ac):=(d8 h rfl:MS (ev X m) L cs es st=_)
theorem GC{X}{p:Nat}(h:st.T.get j=some (.list [.r j0,.r j1]))(hp:p=0\/p=1)(hs:xz v p [.r j0,.r j1]=some xs):Ap X (.r j) (.i 0 (p:Nat)) v st=some (im j (.list xs) st):=
 (bE h (bE (bE (by rcases hp with rfl|rfl<;>rfl:mH [AV.r j0,.r j1] (.i 0 (p:Nat))=some p) (bE hs rfl):KN X (.list [.r j0,.r j1]) (.i 0 (p:Nat)) v=some (.list xs)) rfl):bd (st.T.get j) _=_)
theorem Md.below{D:Nat->Prop}(M:Md D st H)(nx:st.nx<=ab.nx)(nl:∀i,i<st.nx->ab.T.get i=st.T.get i)(lt:∀i o,ab.T.get i=some o->i<ab.nx):Md D ab H/\Go D st ab:=by
 have g:∀i o,st.T.get i=some o->ab.T.get i=some o:=λ i o h=>(nl i<|M.lt i o h).trans h;refine⟨⟨λ a c es h=>let⟨d,x,y,w⟩:=M.ob a c es h;(cC d x (g _ _ y)<|g _ _ w),λ a b c c' d ha hb h1 h2=>?_,λ j l h=>g _ _<|M.ls j l h,λ i o h=>⟨g _ _ (M.fx i o h).1,(M.fx i o h).2⟩,λ d h=>ba (M.dl d h) nx,lt⟩,nx,λ i o h _ _=>g i o h⟩;refine xE (Option.ne_none_iff_exists'.mp ha) λ z0 J=>?_;obtain⟨c1,e1⟩:=z0;refine xE (Option.ne_none_iff_exists'.mp hb) λ z0 B=>?_;obtain⟨c2,e2⟩:=z0;refine bc (M.ob _ _ _ J) λ d1 _ O _=>?_;refine bc (M.ob _ _ _ B) λ d2 _ x2 _=>?_;have y1:=g _ _ O;rw[h1]at y1;clear J B;cases y1;have y2:=g _ _ x2;rw[h2]at y2;cases y2;exact M.inj a b _ _ _ ha hb O x2
variable{xs' ys':List AV}
section
variable{D:Nat->Prop}{z p pl q A it:Nat}{R:List Ev}{N ρ hs:List Int}{y:Nat->Bool}
theorem half(hp:p=0/\pl=66\/p=1/\pl=67)(F:Fr D aH 0 es cl H st)(G0:lk 63 es=some (.r 8))(xK:lk 122 es=some (.r 4))(AG:lk 316 es=some (.r 3))(xJ:lk 264 es=some (.r 5))(QV:lk 124 es=some (.i 0 (p:Nat)))(Y:Hf H z pl q A nP wP nA cA wA it EL R TL j0 j1 xs ys N ρ hs)(Zk:xs'=if p=0 then []else xs)(Zj:ys'=if p=0 then ys else [])(hy:∀k,k<N.length->isIn (bI cr) (.i 0 (k+1:Nat)) (xs'++ys')=some (y k))(Wg:∀dd:List Tv,dd.Perm (sK TL R)->((hs++[nA])++dd.map (·.n)).Perm ((((List.range N.length).filter λ i=> !y i).map λ i=>N.getD i 0)++(ρ++[nA])))(m:Nat):
  ∃ab H' z' O J dd f8,(ev (bI cr)<|m+125).S 0 [(321,1)] Eg st=some (.d6,ab)/\Fr D aH 0 f8 cl H' ab/\(∀y,y≠332->lk y f8=lk y es)/\Hd H H' z z' pl A nA EL R TL O J xs' ys' ρ hs dd:=by
 obtain⟨OY,h8,WU,hj,h7,hw,hu,h9,xf,x0,WV,x5,hf,hg,WW,WY,xi,x7,xh,ne,x6,Af,Ag,x8,xe,hk,x9,hn,xc⟩:=Y;have nd:=fg WY.nd;have FO:=fg nd.2.1;refine xA (X_ FO.2.1) λ Fq FY=>?_;have VN:16≠pl:=ne _<|am m1;have VM:17≠pl:=ne _<|am m2;have inl:∀{x},x=16\/x=A\/RT EL TL x->x∈EL.map (·.a)++(TL.map (·.a)++[A,16,17]):=λ q=>q.elim (λ q=>q▸bm (bm m1)) λ q=>q.elim (λ q=>q▸bm (bm m0)) λ q=>q.elim (λ⟨e,he,q⟩=>q▸am (mf he)) λ⟨t,ht,q⟩=>q▸bm (am<|mf ht);have n8:∀{x},x∈[8,36]->¬(x=16\/x=A\/RT EL TL x):=λ{x} hx q=>x6 x hx<|inl q;refine bc (Yo (cr:=cr) F.md OY hp WU rfl<|m+93) λ ac e1 M1 G1=>?_;have F0:=F.kX M1 G1;have F1:=F0.asg<|dL 332 (.r pl) es;have n1:∀{y v},y≠332->lk y es=some v->lk y (dL 332 (.r pl) es)=some v:=λ h e=>(cw ..).trans<|(if_neg h).trans e;have F2:=F1.Aq WV<|ρ.map lm++[.i 0 nA];have K2:=h8.sl (Af 5<|am m2).symm<|ρ.map lm++[.i 0 nA];refine bc (Gx (cr:=cr) F2.md K2 WU hj h7 (d5 _) VM VN FY Fq (ne _<|am m4) (ne _<|am m5)<|m+81) λ aJ e3 M3 G3=>?_;have F3:=F2.kX M3 G3;have K3:Cn (((H.sl 5<|ρ.map lm++[.i 0 nA]).so pl 66<|jw nP 1 .none wP false false .none).so A 85 (j9 nA 0 (.s cA) wA false false it)|>.sl z ([]++[.r A])) z [.r A]:=((K2.so VM VN _ _).so FY Fq _ _).I4 _;have A3:(((H.sl 5<|ρ.map lm++[.i 0 nA]).so pl 66<|jw nP 1 .none wP false false .none).so A 85 (j9 nA 0 (.s cA) wA false false it)|>.sl z ([]++[.r A])).ob A=some (85,j9 nA 0 (.s cA) wA false false it):=cF (H:=(H.sl 5<|ρ.map lm++[.i 0 nA]).so pl 66<|jw nP 1 .none wP false false .none);have vA:∀x y,x≠pl->x≠A->H.ob x=some y->(((H.sl 5<|ρ.map lm++[.i 0 nA]).so pl 66<|jw nP 1 .none wP false false .none).so A 85 (j9 nA 0 (.s cA) wA false false it)|>.sl z ([]++[.r A])).ob x=some y:=λ x y h1 h2 h=>(dh h2).trans<|(dh h1).trans h;have OE:∀i l,i≠5->i≠z->H.ls i=some l->(((H.sl 5<|ρ.map lm++[.i 0 nA]).so pl 66<|jw nP 1 .none wP false false .none).so A 85 (j9 nA 0 (.s cA) wA false false it)|>.sl z ([]++[.r A])).ls i=some l:=λ i l h1 h2 h=>(di h2).trans<|(di h1).trans h;have F6:∀i o,H.fx i=some o->(((H.sl 5<|ρ.map lm++[.i 0 nA]).so pl 66<|jw nP 1 .none wP false false .none).so A 85 (j9 nA 0 (.s cA) wA false false it)|>.sl z ([]++[.r A])).fx i=some o:=λ _ _ h=>h;have Ry:(((H.sl 5<|ρ.map lm++[.i 0 nA]).so pl 66<|jw nP 1 .none wP false false .none).so A 85 (j9 nA 0 (.s cA) wA false false it)|>.sl z ([]++[.r A])).ls 5=some ((ρ++[nA]).map lm):=(di<|Af 5<|am m2).trans (show(H.sl 5<|ρ.map lm++[.i 0 nA]).ls 5=_ from dD.trans (congrArg some (List.map_append (l₂:=[nA])).symm));generalize (((H.sl 5<|ρ.map lm++[.i 0 nA]).so pl 66<|jw nP 1 .none wP false false .none).so A 85 (j9 nA 0 (.s cA) wA false false it)|>.sl z ([]++[.r A]))=d9 at K3 F3 A3 vA OE F6 Ry;have zz:∀i∈[3,27,28,54,j0,j1,wA,it]++(EL.map (·.w)++TL.map (·.w)),i≠z:=aA (aC (Af _<|am m0)<|aC (Af _<|am m4)<|aC (Af _<|am m5)<|aC (Af _<|am m6)<|aC (Af _<|am m7)<|aC (Af _<|am m8)<|aC (Af _<|am m9)<|aC (Af _<|am V_) aZ) λ i h=>Af i<|bm h;have l3:∀{i l},i∈[3,27,28,54,j0,j1,wA,it]++(EL.map (·.w)++TL.map (·.w))->H.ls i=some l->d9.ls i=some l:=λ{i l} hi e=>OE i l (Ag i hi).2.1 (zz i hi) e;refine cI (Cz (cr:=cr) (R:=R) WY F3.md K3 A3 (l3 (am m6) hw) (l3 (am m7) hu) (λ e he=>⟨vA _ _ (ne _<|bm<|am<|mf he) (λ q=>nd.2.2 _ (mf he) A (bm m0) q) (h9 e he).1,l3 (bm<|am<|mf he) (h9 e he).2⟩)
  (OE 10 _ (by decide) (Af 10<|am m3) WW) (Ag wA<|am m6).2.2 (Ag it<|am m7).2.2 (λ t ht=>
   ib (xf t ht) λ x1 x2 x3=>⟨vA _ _ (ne _<|bm<|bm<|am<|mf ht) (FO.2.2 _ (mf ht) A m0) x1,vA _ _ (ne _<|bm<|bm<|bm<|mf ht) (λ q=>WY.nr t ht<|q▸bm (bm m0)) x2,l3 (bm<|bm<|mf ht) x3⟩) xi x7 xh (λ e he=>(Ag _<|bm<|am<|mf he).2.2) (λ t ht=>(Ag _<|bm<|bm<|mf ht).2.2) x8 xe (vZ<|ae (bL _ _)<|ae hk (by decide)) m) λ bk WX e4 M4 G4 z5=>?_
 refine j_ z5 λ z' dd P=>?_;have F4:=F3.kX M4 G4;have OD:∀i l,i≠10->d9.ls i=some l->WX.ls i=some l:=P.out.ls;have h0:d9.ls 4=some [.r j0,.r j1]:=OE 4 _ (by decide) (Af 4<|am m1) x5;have YA:WX.ls 4=some [.r j0,.r j1]:=OD 4 _ (by decide) h0;have z4:z'≠4:=λ q=>ns<|h0.symm.trans<|q▸P.nz;have YB:∀{i l},i∈[3,27,28,54,j0,j1,wA,it]++(EL.map (·.w)++TL.map (·.w))->H.ls i=some l->WX.ls i=some l:=λ{i l} hi e=>OD i l (Ag i hi).2.2<|l3 hi e;have nk:=F4.md.jZ<|a9 bk.nx;have zm:∀{i l},WX.ls i=some l->i≠bk.nx:=λ h q=>ns<|h.symm.trans<|q▸nk;have x4:WX.ls j0=some xs:=YB (am m4) hf;have y4:WX.ls j1=some ys:=YB (am m5) hg;clear M3 A3;refine cI (hp.elim (λ h=>fN bk.nx j1 (h.1▸rfl) (dD.trans<|congrArg some (Zk.trans<|if_pos h.1).symm) ((di<|zm y4).trans<|y4.trans<|congrArg some (Zj.trans<|if_pos h.1).symm)<|aC (.inl rfl)<|aC (.inr<|.inr rfl) aZ)
   λ h=>fN j0 bk.nx (h.1▸rfl) ((di<|zm x4).trans<|x4.trans<|congrArg some (Zk.trans<|if_neg<|h.1▸Nat.one_ne_zero).symm) (dD.trans<|congrArg some (Zj.trans<|if_neg<|h.1▸Nat.one_ne_zero).symm) (aC (.inr<|.inl rfl)<|aC (.inl rfl) aZ):
   ∃O J,xz (.r bk.nx) p [.r j0,.r j1]=some [.r O,.r J]/\(WX.sl bk.nx []).ls O=some xs'/\(WX.sl bk.nx []).ls J=some ys'/\∀i∈[O,J],i=bk.nx\/i=j0\/i=j1) λ O J Zl v8 xa hq=>?_
 have F5:=F4.pF [];have h3:(WX.sl bk.nx []).ls 4=some [.r j0,.r j1]:=(di<|zm YA).trans YA;have B:=F5.Aq h3 [.r O,.r J];have Zi:WX.ls z'=some []:=P.cn.lz;have lj:∀i∈[O,J],i≠4/\i≠5/\i≠10/\i≠z':=λ i hi=>(hq i hi).elim (λ e=>e▸⟨(zm YA).symm,(zm<|OD 5 _ (by decide) Ry).symm,(zm P.hh).symm,(zm Zi).symm⟩) λ h=>h.elim (λ e=>e▸⟨(Ag _<|am m4).1,(Ag _<|am m4).2.1,(Ag _<|am m4).2.2,λ q=>ns<|(l3 (am m4) hf).symm.trans<|q▸P.nz⟩) λ e=>e▸⟨(Ag _<|am m5).1,(Ag _<|am m5).2.1,(Ag _<|am m5).2.2,λ q=>ns<|(l3 (am m5) hg).symm.trans<|q▸P.nz⟩;have h6:d9.ob 8=some (604,kt):=vA _ _ (ne _<|am m0) (λ q=>n8 m0<|.inr<|.inl q) OY.o8;have o8:Ob (im 4 (.list [.r O,.r J])<|a_ (.list []) bk) 8 604 kt:=B.Ob<|P.out.ob _ _ (n8 m0) h6;refine xE P.cn.JT λ v30 lO=>?_;have l6:∀{i l},i≠4->WX.ls i=some l->((WX.sl bk.nx []).sl 4 [.r O,.r J]).ls i=some l:=λ h e=>(di h).trans<|(di<|zm e).trans e;have l7:∀{i l},i∈[3,27,28,54,j0,j1,wA,it]++(EL.map (·.w)++TL.map (·.w))->H.ls i=some l->((WX.sl bk.nx []).sl 4 [.r O,.r J]).ls i=some l:=λ{i l} hi e=>l6 (Ag i hi).1<|YB hi e;have Se:WX.ls 10=some (((hs++[nA])++dd.map (·.n)).map lm):=P.hh.trans<|congrArg some (by rw[List.map_append,List.map_append,List.map_map];rfl);have j4:O≠4:=(lj _ m0).1;have fu:J≠4:=(lj _ m1).1;have Wk:Lk (im 4 (.list [.r O,.r J])<|a_ (.list []) bk) 8 4 O J 3 5 10 xs' ys' N (ρ++[nA]) ((hs++[nA])++dd.map (·.n)):=
  ⟨tT _ _ _ o8 rfl<|B.md.ls _ _<|l7 (am m1) OY.YC,⟨_,_,_,.r 36,o8,rfl,B.md.ls _ _<|l7 (am m2) OY.Wc⟩,⟨_,_,_,_,_,_,o8,rfl,B.Ob lO,rfl,B.md.ls _ _<|l6 z4 Zi⟩,
   B.md.ls _ _ dD,B.md.ls _ _<|(di j4).trans v8,B.md.ls _ _<|(di fu).trans xa,B.md.ls _ _<|l7 (am m0) x0,B.md.ls _ _<|l6 (by decide)<|OD 5 _ (by decide) Ry,B.md.ls _ _<|l6 (by decide) Se,B.md.lt⟩
 have Wn:Nm (im 4 (.list [.r O,.r J])<|a_ (.list []) bk) (dL 332 (.r pl) es) 8 4 3 5 10 1:=⟨B.loc,n1 (by decide) G0,n1 (by decide) xK,n1 (by decide) AG,n1 (by decide) xJ,(B.md.fx _ _ P.cn.ce).1⟩;have lx:xs'.length<=xs.length:=Zk▸tH (P:=λ l:List AV=>l.length<=xs.length) (dp _) (a9 _);have ly:ys'.length<=ys.length:=Zj▸tH (P:=λ l:List AV=>l.length<=ys.length) (a9 _) (dp _);refine du (CJ (X:=bI cr) (ss:=[]) (y:=y) (by kernel_rfl) (by kernel_rfl) Wn Wk rfl (eh hn (by decide)) (ae (dK lx ly)<|ae xc (by decide)) (g:=m+97) (ae hn<|ae (by decide)<|Nat.le_add_left 97 m) hy
  (by
   rw[List.length_append,List.length_append,List.length_map];exact ae (Nat.add_le_add_left (ae (cB P.pz.length_eq)<|List.length_filter_le _ _) _)<|ae (cB<|Nat.add_right_comm _ 1 _)<|ae (Nat.succ_le_succ hk) (by decide)) (Wg dd P.pz)) λ jz e7 hr XU Yr=>?_
 refine xA (B.md.below hr XU Yr) λ M7 G7=>?_;refine(⟨jz,_,z',O,J,dd,dL 332 (.r pl) es,?_,B.kX M7 G7,λ y h=>(cw ..).trans<|if_neg h,⟨(P.cn.sl (zm Zi) _).sl z4 _,?_,P.pz,l6 (by decide)<|OD 5 _ (by decide) Ry,dD,(di j4).trans v8,(di fu).trans xa,lj,l6 (by decide) Se,P.th,λ x y h1 h2 h=>P.out.ob _ _ (λ q=>h2<|inl q)<|vA _ _ h1 (λ q=>h2<|q▸bm (bm m0)) h,λ i l h4 h5 BU hz h=>l6 h4<|OD _ _ BU<|OE _ _ h5 hz h,λ i o h=>P.out.fx _ _<|F6 _ _ h⟩⟩)
 .exact gD (m:=m+124) (dF (m:=m+122) (by kernel_rfl) rfl (aP (m:=m+122) (F.E G0)<|aP (m:=m+121) (Vs (m:=m+120)<|aP (m:=m+119) (v:=.s 162) rfl<|aP (m:=m+118) (F.E QV) bz) bz) e1) F0.loc
   (ju (m:=m+123) (qF (m:=m+122) (F1.E<|n1 (by decide) xJ) (F1.md.ls _ _ WV) (by kernel_rfl) (aP (m:=m+121) (bR (m:=m+120) (bR (m:=m+119) (bR (m:=m+118) (F1.E bj) (F1.Ob WU) rfl) (F1.Ob hj) rfl) (F1.Ob h7) rfl) bz) (F1.md.ls _ _ WV)<|ae (Nat.succ_le_succ<|vZ x9) (by decide))
   (ju (m:=m+122) (je (m:=m+121) (bR (m:=m+120) (F2.E<|n1 (by decide) G0) (F2.Ob OY.o8) rfl) (F2.Ob h8.jU) rfl (by kernel_rfl) (aP (m:=m+120) (F2.E bj)<|aP (m:=m+119) (v:=.none) rfl bz) e3)
   (ju (m:=m+121) (je (m:=m+120) (bR (m:=m+119) (F3.E<|n1 (by decide) G0) (F3.Ob h6) rfl) (F3.Ob K3.jU) rfl (by kernel_rfl) (aP (m:=m+119) (v:=.i 0 0) rfl bz) e4)<|Fu (m:=m+120) (rQ (m:=m+118)) (F5.E (m:=m+119)<|n1 (by decide) xK) (F5.E (m:=m+119)<|n1 (by decide) QV) (GC (F5.md.ls _ _ h3) (hp.imp And.left And.left) Zl) e7)))
 .cases q:H.ls z' with|none=>rfl|some l=>exact ns<|(OE z' l (λ q=>ns<|Ry.symm.trans<|q▸P.nz) (λ q=>ns<|K3.lz.symm.trans<|q▸P.nz) q).symm.trans P.nz
end
structure rO(H:Hp)(c:Nat)(EL R:List Ev)(TL:List Tv)(xs ys:List AV)(N hs:List Int):Prop where
 rn:Rn H
 cn:Cn H 39 []
 p0:H.ob 66=some (66,jw 21 1 .none 98 false false<|.r 99)
 p1:H.ob 67=some (66,jw 26 1 .none 100 false false<|.r 9)
 q0:H.ob 99=some (162,[(27,.r 116),(28,.b false)])
 q1:H.ob 9=some (162,[(27,.r 31),(28,.b false)])
 a0:H.ob 116=some (85,j9 19 1 (.s 1) 122 false false 123)
 a1:H.ob 31=some (85,j9 24 1 (.s c) 45 false false 46)
 w0:H.ls 122=some []
 w1:H.ls 45=some []
 i0:H.ls 123=some (EL.map λ e=>.r e.a)
 i1:H.ls 46=some (R.map λ e=>.r e.a)
 el:∀e∈EL++R,e.at 1 H/\H.ls e.w=some []
 th:∀t∈TL,H.ob t.a=some (66,nO t (cnt t<|EL++R) false)/\H.ob t.r=some (162,[(27,.r t.a),(28,.b false)])/\H.ls t.w=some []
 l3:H.ls 3=some (N.map lm)
 l5:H.ls 5=some []
 l4:H.ls 4=some [.r 11,.r 12]
 lx:H.ls 11=some xs
 ly:H.ls 12=some ys
 RA:H.ls 10=some (hs.map lm)
 ek:∀e∈EL++R,e.k=0/\e.v=.none\/∃t∈TL,t.k=e.k/\e.v=.r t.r
 k0:∀t∈TL,t.k≠0
 tk:(TL.map (·.k)).Nodup
 tn:(TL.map (·.n)).Nodup
 Bf:∀t∈TL,cnt t (EL++R)=1\/cnt t (EL++R)=2
 nE:(EL.map (·.n)).Nodup
 nR:(R.map (·.n)).Nodup
 lo:∀e∈EL++R,256<=e.a/\256<=e.w
 lt:∀t∈TL,256<=t.a/\256<=t.r/\256<=t.w
 nd:((EL++R).map (·.a)++TL.map (·.a)).Nodup
 nr:∀t∈TL,t.r∉(EL++R).map (·.a)++TL.map (·.a)
 sE:EL.length<=20
 sR:R.length<=20
 sT:TL.length<=20
 sH:hs.length<=9
 sN:N.length<=20
 sX:xs.length<=20/\ys.length<=20
def ML:List IS:=[.BV (.l 124) (.c<|.i 0 2) Eg,.ret<|some<|.c<|.b true]
section
variable{D:Nat->Prop}{R:List Ev}{N hs:List Int}{y:Nat->Bool}
theorem JU{A:Nat}(hA:A<256)(Fq:A≠16)(FY:A≠17)(h1:∀e∈EL,256<=e.a)(h2:∀t∈TL,256<=t.a/\256<=t.r)(nd:(EL.map (·.a)++TL.map (·.a)).Nodup)(nr:∀t∈TL,t.r∉EL.map (·.a)++TL.map (·.a))(tk:(TL.map (·.k)).Nodup)(k0:∀t∈TL,t.k≠0)(ek:∀e∈EL,e.k=0/\e.v=.none\/∃t∈TL,t.k=e.k/\e.v=.r t.r):Bs EL TL A:=by
 have O:∀x∈EL.map (·.a),256<=x:=aM h1;have J:∀x∈TL.map (·.a),256<=x:=aM λ t B=>(h2 t B).1;have small:∀x∈[A,16,17],x<256:=aC hA<|aC (by decide)<|aC (by decide) aZ
 exact ib (fg nd) λ n1 n2 n3=>⟨List.nodup_append.mpr ⟨n1,List.nodup_append.mpr ⟨n2,List.nodup_cons.mpr ⟨λ h=>aC (P:=(· ≠A)) Fq.symm (aC FY.symm aZ) A h rfl,by decide⟩,λ a ha b hb=>cV<|ba (small b hb)<|J a ha⟩,
   λ a ha=>aA (P:=λ b=>a≠b) (n3 a ha) λ b hb=>cV<|ba (small b hb)<|O a ha⟩,
  λ t B h=>aA (P:=(· ≠t.r)) (λ z hz e=>nr t B<|e▸aU hz) (aA (λ z hz e=>nr t B<|e▸aF hz) λ z hz=>dI<|ba (small z hz) (h2 t B).2) t.r h rfl,tk,k0,ek⟩
theorem rO.half(Y:rO H c EL R TL xs ys N hs):Hf H 39 66 99 116 21 98 19 1 122 123 EL R TL 11 12 xs ys N [] hs:=by
 have eE:∀e∈EL,e∈EL++R:=λ e B=>aU B;have mE:∀x∈EL.map (·.a),256<=x:=aM λ e B=>(Y.lo e<|eE e B).1;have mT:∀x∈TL.map (·.a),256<=x:=aM λ t J=>(Y.lt t J).1;have m2:∀x∈EL.map (·.w)++TL.map (·.w),256<=x:=aA (aM λ e B=>(Y.lo e<|eE e B).2)<|aM λ t J=>(Y.lt t J).2.2;have sub:(EL.map (·.a)++TL.map (·.a)).Sublist ((EL++R).map (·.a)++TL.map (·.a)):=by
  rw[List.map_append];exact List.Sublist.append_right (List.sublist_append_left _ _) _
 have he:Bs EL TL 116:=JU (by decide) (by decide) (by decide) (λ e B=>(Y.lo e<|eE e B).1) (λ t J=>⟨(Y.lt t J).1,(Y.lt t J).2.1⟩) (Y.nd.sublist sub) (λ t J h=>Y.nr t J<|sub.subset h) Y.tk Y.k0 λ e B=>Y.ek e<|eE e B;have n8:∀y∈EL.map (·.a)++(TL.map (·.a)++[116,16,17]),y≠8/\y≠36:=aA (λ y O=>⟨jx (mE y O) (by decide),jx (mE y O) (by decide)⟩)<|aA (λ y O=>⟨jx (mT y O) (by decide),jx (mT y O) (by decide)⟩) (by decide);exact⟨Y.rn,Y.cn,Y.p0,Y.q0,Y.a0,Y.w0,Y.i0,λ e B=>Y.el e<|eE e B,Y.th,Y.l3,Y.l5,Y.l4,Y.lx,Y.ly,Y.RA,he,Y.Bf,Y.nE,Y.tn,aA (by decide)<|aA (λ x hx=>jx (mE x hx) (by decide))<|aA (λ x hx=>jx (mT x hx) (by decide))<|aM λ t J=>jx (Y.lt t J).2.1 (by decide),
  aC (λ h=>(n8 _ h).1 rfl)<|aC (λ h=>(n8 _ h).2 rfl) aZ,aA (by decide) λ i hi=>jx (m2 i hi) (by decide),aA (by decide) λ i hi=>⟨jx (m2 i hi) (by decide),jx (m2 i hi) (by decide),jx (m2 i hi) (by decide)⟩,
  Y.sE,Y.sT,ae (dK Y.sH Y.sT) (by decide),by decide,ae Y.sN (by decide),ae (dK Y.sX.1 Y.sX.2) (by decide)⟩
noncomputable def left(TL:List Tv)(R:List Ev):List Tv:=TL.filter λ t=> !(cnt t R==0)
theorem rO.Sl(Y:rO H c EL R TL xs ys N hs){dd:List Tv}(P:Hd H H' 39 z' 66 116 19 EL R TL j0 j1 xs' ys' [] hs dd)(sX:xs'.length+ys'.length<=100):Hf H' z' 67 9 31 26 100 24 c 45 46 R [] (left TL R) j0 j1 xs' ys' N [19] ((hs++[19])++dd.map (·.n)):=by
 have O:∀e∈R,e∈EL++R:=λ e J=>aF J;have tL:∀t∈left TL R,t∈TL/\cnt t R≠0:=λ t B=>by
  have:=List.mem_filter.mp B;exact⟨this.1,by simpa using this.2⟩
 have jy:(left TL R).Sublist TL:=List.filter_sublist;have ht:=fg Y.nd;have h6:∀e∈EL,∀f∈R,e.a≠f.a:=λ e J f hf=>by
  have:=ht.1;rw[List.map_append,List.nodup_append]at this;exact this.2.2 _ (bU J) _ (bU hf)
 have nE:∀{x},x<256->∀y∈EL.map (·.a),y≠x:=λ lt=>aM λ e J=>jx (Y.lo e<|aU J).1 lt;have nT:∀{x},x<256->∀y∈TL.map (·.a),y≠x:=λ lt=>aM λ t B=>jx (Y.lt t B).1 lt;have nl:∀x y,x<256->x≠66->x≠116->x≠16->x≠17->H.ob x=some y->H'.ob x=some y:=λ x y lt h1 h2 h3 h4=>P.ob x y h1 λ q=>aA (nE lt) (aA (nT lt)<|aC h2.symm<|aC h3.symm<|aC h4.symm aZ) x q rfl;have n3:∀{x},256<=x->∀y∈[116,16,17],y≠x:=λ h=>aC (jx h (by decide)).symm<|aC (jx h (by decide)).symm<|aC (jx h (by decide)).symm aZ
 have h7:∀e∈R,∀y,H.ob e.a=some y->H'.ob e.a=some y:=λ e J y=>P.ob _ y (jx (Y.lo e<|O e J).1 (by decide)) λ q=>
  aA (P:=(· ≠e.a)) (aM λ f hf=>h6 f hf e J) (aA (aM λ f hf q=>ht.2.2 _ (List.mem_map.mpr ⟨e,O e J,rfl⟩) _ (bU hf) q.symm)<|n3 (Y.lo e<|O e J).1) e.a q rfl
 have h8:∀t∈TL,∀y,H.ob t.r=some y->H'.ob t.r=some y:=λ t B y=>P.ob _ y (jx (Y.lt t B).2.1 (by decide)) λ q=>
  have nr:∀{z},z∈EL.map (·.a)++TL.map (·.a)->z≠t.r:=λ h e=>Y.nr t B (by rw[List.map_append,<-e];exact(dc h).elim (λ h=>aU<|aU h)<|aF)
  aA (P:=(· ≠t.r)) (λ z hz=>nr<|aU hz) (aA (λ z hz=>nr<|aF hz)<|n3 (Y.lt t B).2.1) t.r q rfl
 have ls:∀i l,i≠4->i≠5->i≠10->i≠39->H.ls i=some l->H'.ls i=some l:=P.ls;have C7:∀{i l},H.ls i=some l->i≠z':=λ{i l} h q=>by rw[q,P.nz]at h;exact nn h
 have h5:∀e∈R,e.k=0/\e.v=.none\/∃t∈left TL R,t.k=e.k/\e.v=.r t.r:=λ e J=>by
  rcases Y.ek e (O e J)with h|⟨t,B,h1,h2⟩
  .exact .inl h
  .refine .inr (cC t (List.mem_filter.mpr ⟨B,?_⟩) h1 h2);have:0<cnt t R:=List.countP_pos_iff.mpr ⟨e,J,by simp[h1]⟩;exact X8 (cV this)
 have eR:∀t∈left TL R,cnt t (R++[])=1\/cnt t (R++[])=2:=λ t B=>by
  have h0:=(tL t B).2;have h1:=Y.Bf t (tL t B).1;have:cnt t R<=2:=ae (Nat.le_add_left _ _)<|ae (cB List.countP_append.symm)<|Rr h1;rw[List.append_nil];exact(Nat.lt_or_eq_of_le this).elim (λ h=>.inl<|Nat.le_antisymm (Nat.le_of_lt_succ h)<|Nat.pos_of_ne_zero h0) .inr
 refine a8 Y.rn.Oy λ Tq Oy Yy=>?_;have mE:∀x∈R.map (·.a),256<=x:=aM λ e J=>(Y.lo e<|O e J).1;have mT:∀x∈(left TL R).map (·.a),256<=x:=aM λ t B=>(Y.lt t (tL t B).1).1;have n8:∀y∈R.map (·.a)++((left TL R).map (·.a)++[31,16,17]),y≠8/\y≠36:=aA (λ y hy=>⟨jx (mE y hy) (by decide),jx (mE y hy) (by decide)⟩)<|aA (λ y hy=>⟨jx (mT y hy) (by decide),jx (mT y hy) (by decide)⟩) (by decide);have sub:(R.map (·.a)++(left TL R).map (·.a)).Sublist ((EL++R).map (·.a)++TL.map (·.a)):=by
  rw[List.map_append];exact List.Sublist.append (List.sublist_append_right _ _) (jy.map _)
 have he:Bs R (left TL R) 31:=JU (by decide) (by decide) (by decide) (λ e J=>(Y.lo e<|O e J).1) (λ t B=>⟨(Y.lt t (tL t B).1).1,(Y.lt t (tL t B).1).2.1⟩) (Y.nd.sublist sub) (λ t B h=>Y.nr t (tL t B).1<|sub.subset h) (Y.tk.sublist<|jy.map _) (λ t B=>Y.k0 t (tL t B).1) h5;have MP:∀e∈R,e.at 1 H'/\H'.ls e.w=some []:=λ e J=>⟨h7 e J _ (Y.el e<|O e J).1,ls _ _ (jx (Y.lo e<|O e J).2 (by decide)) (jx (Y.lo e<|O e J).2 (by decide)) (jx (Y.lo e<|O e J).2 (by decide)) (jx (Y.lo e<|O e J).2 (by decide)) (Y.el e<|O e J).2⟩;have Og:∀t∈left TL R,H'.ob t.a=some (66,nO t (cnt t<|R++[]) false)/\H'.ob t.r=some (162,[(27,.r t.a),(28,.b false)])/\H'.ls t.w=some []:=λ t B=>by
  refine ib (Y.th t (tL t B).1) λ x1 x2 x3=>?_;have:=(Y.lt t (tL t B).1).2.2;exact⟨by rw[List.append_nil];exact P.th t (tL t B).1 (tL t B).2,h8 t (tL t B).1 _ x2,ls _ _ (jx this (by decide)) (jx this (by decide)) (jx this (by decide)) (jx this (by decide)) x3⟩
 have lL:(left TL R).length<=20:=ae (List.length_filter_le _ _) Y.sT;have ld:dd.length+(left TL R).length<=40:=by
  exact dK (ae (cB P.pd.length_eq)<|ae (List.length_filter_le _ _) Y.sT) lL
 have hw:∀i∈R.map (·.w)++(left TL R).map (·.w),256<=i/\i≠z':=aA (aM λ e J=>⟨(Y.lo e<|O e J).2,C7 (Y.el e<|O e J).2⟩)<|aM λ t B=>⟨(Y.lt t (tL t B).1).2.2,C7 (Y.th t (tL t B).1).2.2⟩;have j0:=P.lj _<|.head _;have j1:=P.lj _<|.tail _<|.head _;refine⟨⟨nl 8 _ (by decide) (by decide) (by decide) (by decide) (by decide) Y.rn.o8,ls 28 _ (by decide) (by decide) (by decide) (by decide) Y.rn.Wc,⟨Tq,nl 36 _ (by decide) (by decide) (by decide) (by decide) (by decide) Oy,Yy⟩,ls 54 _ (by decide) (by decide) (by decide) (by decide) Y.rn.Yz,P.fx _ _ Y.rn.Ul,ls 27 _ (by decide) (by decide) (by decide) (by decide) Y.rn.YC⟩,
  P.cn,nl 67 _ (by decide) (by decide) (by decide) (by decide) (by decide) Y.p1,nl 9 _ (by decide) (by decide) (by decide) (by decide) (by decide) Y.q1,nl 31 _ (by decide) (by decide) (by decide) (by decide) (by decide) Y.a1,ls 45 _ (by decide) (by decide) (by decide) (by decide) Y.w1,ls 46 _ (by decide) (by decide) (by decide) (by decide) Y.i1,MP,Og,
  ls 3 _ (by decide) (by decide) (by decide) (by decide) Y.l3,P.l5,P.l4,P.lx,P.ly,P.RA,he,eR,Y.nR,Y.tn.sublist<|jy.map _,aA (by decide)<|aA (λ x hx=>jx (mE x hx) (by decide))<|aA (λ x hx=>jx (mT x hx) (by decide))<|aM λ t B=>jx (Y.lt t (tL t B).1).2.1 (by decide),
  aC (λ h=>(n8 _ h).1 rfl)<|aC (λ h=>(n8 _ h).2 rfl) aZ,aA (aC (C7 Y.l3)<|aC (C7 Y.l4)<|aC (C7 Y.l5)<|aC (C7 Y.RA)<|aC (C7 Y.rn.YC)<|aC (C7 Y.rn.Wc)<|aC (C7 Y.rn.Yz)<|aC j0.2.2.2<|aC j1.2.2.2<|aC (C7 Y.w1)<|aC (C7 Y.i1) aZ) λ i hi=>(hw i hi).2,
  aA (aC (by decide)<|aC (by decide)<|aC (by decide)<|aC (by decide)<|aC ⟨j0.1,j0.2.1,j0.2.2.1⟩<|aC ⟨j1.1,j1.2.1,j1.2.2.1⟩<|aC (by decide)<|aC (by decide) aZ) λ i hi=>⟨jx (hw i hi).1 (by decide),jx (hw i hi).1 (by decide),jx (hw i hi).1 (by decide)⟩,
  Y.sR,lL,by rw[List.length_append,List.length_append,List.length_map];exact ae (cB<|Nat.add_assoc _ _ _)<|dK (Nat.succ_le_succ Y.sH) ld,by decide,ae Y.sN (by decide),ae sX (by decide)⟩
theorem J7{m n k L:Nat}{X}{cs}{t}{b}{R:Option<|Fl×St}(h:k<n)(B:jq L cs t (.i 0 (k:Nat)) st=some ac)(J:(ev X m).S L cs b ac=some (.d6,af))(O:(ev X m).F L cs t (.mr (k+1) n) b af=R):(ev X<|m+1).F L cs t (.mr k n) b st=R:=by
 show bd (kw st.T<|.mr k n) (λ r=>match r with|none=>some (Fl.d6,st)|some p=>bd (jq L cs t p.1 st) λ st=>bF ((ev X m).S L cs b st)<|QB (ev X m) L cs t p.2 b)=_;have:kw st.T (.mr k n)=some (some (.i 0<|Int.ofNat k,.mr (k+1) n)):=by
  unfold kw;dsimp only;rw[py,decide_eq_true h]
 rw[this,fR];dsimp only;rw[show jq L cs t (.i 0<|Int.ofNat k) st=some ac from B,fR,J,cz];exact O
theorem N7{m n L:Nat}{X}{cs}{t}{b}:(ev X<|m+1).F L cs t (.mr n n) b st=some (.d6,st):=by
 show bd (kw st.T<|.mr n n) _=_;have:kw st.T (.mr n n)=some none:=by
  unfold kw;dsimp only;rw[py,decide_eq_false<|Nat.lt_irrefl _]
 rw[this];rfl
theorem Tw(F:Fr D aH 0 es cl H st)(G0:lk 63 es=some (.r 8))(xK:lk 122 es=some (.r 4))(AG:lk 316 es=some (.r 3))(xJ:lk 264 es=some (.r 5))(Y:rO H c EL R TL xs ys N hs)(hy:∀k,k<N.length->isIn (bI cr) (.i 0 (k+1:Nat)) ys=some (y k))(Zp:∀dd:List Tv,dd.Perm (sK TL R)->((hs++([19]:List Int))++dd.map λ t:Tv=>t.n).Perm ((((List.range N.length).filter λ i=> !y i).map λ i=>N.getD i 0)++(([]:List Int)++[19])))(Zo:∀B O:List Tv,B.Perm (sK TL R)->O.Perm (left TL R)->((((hs++([19]:List Int))++B.map λ t:Tv=>t.n)++([24]:List Int))++O.map λ t:Tv=>t.n).Perm ((((List.range N.length).filter λ i=> !false).map λ i=>N.getD i 0)++(([19]:List Int)++[24]))):
  ∃ab,(ev (bI cr) 250).S 0 [(321,1)] ML st=some (.ret<|.b true,ab):=by
 have F1:=F.asg<|dL 124 (.i 0 (0:Nat)) es;have n1:∀{y v}{es:List<|Nat×AV}{u},y≠124->lk y es=some v->lk y (dL 124 u es)=some v:=λ{y v es u} h e=>by rw[cw,if_neg h];exact e
 refine j_ (half (cr:=cr) (p:=0) (.inl ⟨rfl,rfl⟩) F1 (n1 (by decide) G0) (n1 (by decide) xK) (n1 (by decide) AG) (n1 (by decide) xJ) bj Y.half (xs':=[]) (ys':=ys) rfl rfl hy Zp 123) λ af cb fy=>j_ fy λ OW j0 J=>cQ J λ j1 B ED e2 F2 n2 P2=>?_;have F3:=F2.asg<|dL 124 (.i 0 (1:Nat)) ED;have m2:∀{y v},y≠124->y≠332->lk y es=some v->lk y (dL 124 (.i 0 (1:Nat)) ED)=some v:=λ{y v} h h' e=>n1 h<|(n2 y h').trans<|n1 h e;have Y2:=Y.Sl P2 (by rw[List.length_nil,Nat.zero_add];exact ae Y.sX.2 (by decide));have dl:sK (left TL R) []=left TL R:=List.filter_eq_self.mpr λ t _=>rfl;refine j_ (half (cr:=cr) (p:=1) (y:=λ _=>false) (.inr ⟨rfl,rfl⟩) F3 (m2 (by decide) (by decide) G0) (m2 (by decide) (by decide) xK) (m2 (by decide) (by decide) AG) (m2 (by decide) (by decide) xJ) bj Y2 (xs':=[]) (ys':=[]) rfl rfl (λ k _=>rfl) (λ dd pd=>Zo B dd P2.pd<|pd.trans<|.of_eq dl) 122) λ bk fu fy=>j_ fy λ d1 k0 J=>cQ J λ k1 O zF e4 F4 n4 P4=>?_;refine⟨bk,?_⟩;refine wX (m:=249) (ac:=bk) ?_<|jH (m:=248) rfl;show(ev (bI cr) 249).F 0 [(321,1)] (.l 124) (.mr 0 2) Eg st=_;exact J7 (m:=248) (by decide) (eS F.loc) e2<|J7 (m:=247) (by decide) (eS F2.loc) e4<|N7 (m:=246)
end
def qU(T:TR AO):Hp:=⟨λ a=>bd (ownOf ⟨T,0⟩ a) λ p=>bd (nU ⟨T,0⟩ p.2) λ es=>some (p.1,es),dE T,λ i=>bd (T.get i) λ o=>cj (plain o)<|some o⟩
section
variable{T:TR AO}{a d i:Nat}{l:List AV}{o:AO}
theorem zy(h1:T.get a=some (.inst c d))(h2:T.get d=some (.ns es)):(qU T).ob a=some (c,es):=bE (bE h1 rfl:ownOf ⟨T,0⟩ a=some (c,d))<|bE (eI (st:=⟨T,0⟩) h2) rfl
theorem D_(h:T.get i=some (.list l)):(qU T).ls i=some l:=cP h
theorem R8(h:T.get i=some o)(hp:plain o=true):(qU T).fx i=some o:=bE h<|r7 hp rfl
def Wd(T:TR AO)(d:Nat):Prop:=∃a c,T.get a=some (.inst c d)
theorem Q8{N:Nat}(lt:∀i o,T.get i=some o->i<N)(dl:∀a c d,T.get a=some (.inst c d)->d<N)(inj:∀a b c c' d,T.get a=some (.inst c d)->T.get b=some (.inst c' d)->a=b):Md (Wd T) ⟨T,N⟩ (qU T):=
 ⟨λ a c es h=>aX h λ p e h=>aX h λ f8 B h=>xA (sP h) λ O z2=>have J:=pn e;cC p.2 ⟨a,_,J⟩ (O▸J) (z2▸dz B),λ a b c c' d _ _ h1 h2=>inj a b c c' d h1 h2,λ j l h=>AL h,λ i o h=>aX h λ o' e h=>kW h λ B h=>sI h▸⟨e,B⟩,λ d⟨a,c,h⟩=>dl a c d h,lt⟩
end
theorem CZ{Z:Sy}{w}{G:Nat->Addr}{n:Nat}{h}{a:Addr}(H:OR Z w G n h a<|.ns es)(O:Z'.nm=Z.nm)(F:F2 (λ p q=>p.1=q.1/\∀v,VR Z G n h p.2 v->VR Z' ay n' h q.2 v) es f8):OR Z' w ay n' h a (.ns f8):=by
 obtain⟨o,dG,ep,g,hd,hs,hz,hm⟩:=H;have key:∀k,(lk k es=none/\lk k f8=none)\/∃x y,lk k es=some x/\lk k f8=some y/\∀v,VR Z G n h x v->VR Z' ay n' h y v:=λ k=>by
  clear hm hz hd
  induction F with|nil=>exact .inl ⟨rfl,rfl⟩|@cons p q l l' r t ih=>
   obtain⟨r1,r2⟩:=r;rw[show lk k (p::l)=lk k ((p.1,p.2)::l)from rfl,show lk k (q::l')=lk k ((q.1,q.2)::l')from rfl,iQ,iQ,<-r1];by_cases e:p.1=k
   .rw[if_pos e,if_pos e];exact .inr (fc _ _ rfl rfl r2)
   .rw[if_neg e,if_neg e];exact ih
 refine⟨o,dG,ep,g,hd,hs,by rw[<-F.length];exact hz,λ k=>?_⟩;have:=hm k;rw[O];rcases key k with⟨B,J⟩|⟨x,y,B,J,r⟩
 .rw[B]at this;rw[J];exact this
 .rw[B]at this;rw[J];obtain⟨v,q1,q2⟩:=this;exact⟨v,q1,r v q2⟩
def Kx(b:Nat)(t:Th):List (Nat×AO):=[(b,.inst 66<|b+1),(b+1,.ns<|jw t.num t.n (.s 13) (b+2) false false<|.i 0 t.k),(b+2,.list []),(b+3,.inst 162<|b+4),(b+4,.ns [(27,.r b),(28,.b false)])]
def H_(b:Nat)(n:Int)(v:AV):List (Nat×AO):=[(b,.inst 66<|b+1),(b+1,.ns<|jw n 1 .none (b+2) false false v),(b+2,.list [])]
noncomputable def iJ:Nat->List Th->List Tv
 |_,[]=>[]|b,t::l=>⟨b,b+3,b+2,t.num,t.k⟩::iJ (b+5) l
noncomputable def Ck:Nat->List Th->List (Nat×AO)
 |_,[]=>[]|b,t::l=>Kx b t++Ck (b+5) l
noncomputable def valOf(TL:List Tv)(k:Nat):AV:=match TL.find? (λ t=>t.k==k)with|some t=>.r t.r|none=>.none
noncomputable def yj(TL:List Tv):Nat->List El->List Ev
 |_,[]=>[]|b,e::l=>⟨b,e.num,b+2,valOf TL e.k,e.k⟩::yj TL (b+3) l
noncomputable def BW(TL:List Tv):Nat->List El->List (Nat×AO)
 |_,[]=>[]|b,e::l=>H_ b e.num (valOf TL e.k)++BW TL (b+3) l
noncomputable def U_:Nat->List Th->List (Nat×Addr)
 |_,[]=>[]|b,t::l=>[(b,t.a),(b+1,t.b),(b+2,t.c),(b+3,t.r),(b+4,t.d)]++U_ (b+5) l
noncomputable def OT:Nat->List El->List (Nat×Addr)
 |_,[]=>[]|b,e::l=>[(b,e.a),(b+1,e.b),(b+2,e.c)]++OT (b+3) l
def vj(G:Nat->Addr)(A:List<|Nat×Addr)(i:Nat):Addr:=if i<256 then G i else(lk i A).getD 0
theorem L8:∀(l:List Th)(b:Nat),(Ck b l).map (·.1)=List.range' b (5*l.length)/\(U_ b l).map (·.1)=List.range' b (5*l.length)
 |[],b=>⟨rfl,rfl⟩|t::l,b=>by
  refine xA (L8 l<|b+5) λ h1 h2=>?_;have e:List.range' b (5*(t::l).length)=[b,b+1,b+2,b+3,b+4]++List.range' (b+5) (5*l.length):=by
   rw[List.length_cons,show 5*(l.length+1)=5*l.length+5 by rfl];rfl
  constructor
  .rw[e,<-h1];rfl
  .rw[e,<-h2];rfl
theorem D6(TL:List Tv):∀(l:List El)(b:Nat),(BW TL b l).map (·.1)=List.range' b (3*l.length)/\(OT b l).map (·.1)=List.range' b (3*l.length)
 |[],b=>⟨rfl,rfl⟩|t::l,b=>by
  refine xA (D6 TL l<|b+3) λ h1 h2=>?_;have e:List.range' b (3*(t::l).length)=[b,b+1,b+2]++List.range' (b+3) (3*l.length):=by
   rw[List.length_cons,show 3*(l.length+1)=3*l.length+3 by rfl];rfl
  constructor
  .rw[e,<-h1];rfl
  .rw[e,<-h2];rfl
theorem ro:∀{l:List<|Nat×I},(l.map (·.1)).Nodup->∀{i:Nat}{v:I},(i,v)∈l->lk i l=some v
 |[],_,_,_,h=>nomatch h|p::l,nd,i,v,h=>by
  rw[List.map_cons,List.nodup_cons]at nd;rw[show lk i (p::l)=lk i ((p.1,p.2)::l)from rfl,iQ];rcases bG h with rfl|h
  .rw[if_pos rfl]
  .rw[if_neg λ e=>nd.1<|List.mem_map.mpr ⟨_,h,e.symm⟩];exact ro nd.2 h
variable{k_:Nat->Int}{mX:Nat->List Value}
section
variable{ca:Nat->Obj}{ch:Nat->Nat->FuncData->Prop}{σ:Nat->Int}{w:World}{G:Nat->Addr}{h:Heap}{n N b k:Nat}
theorem tI{o i:Int}(z0:σ 0=0)(e:k_ j+o=i):∀v,VR (bD k_ mX ca ch) G n h (.i j o) v->VR (bD σ τ ca ch) ay N h (.i 0 i) v:=λ v H=>by
 cases H with|i _ _ t=>
  have:=VR.i (Z:=bD σ τ ca ch) (G:=ay) (n:=N) (h:=h) 0 i t;rw[show(bD σ τ ca ch).σ 0=0 from z0,Int.zero_add]at this;rw[show(bD k_ mX ca ch).σ j+o=i from e];exact this
theorem tB{y:Bool}:∀v,VR (bD k_ mX ca ch) G n h (.b y) v->VR (bD σ τ ca ch) ay N h (.b y) v:=λ v H=>by cases H;exact .b _
theorem tN:∀v,VR (bD k_ mX ca ch) G n h .none v->VR (bD σ τ ca ch) ay N h .none v:=λ v H=>by cases H;exact .none
theorem tS:∀v,VR (bD k_ mX ca ch) G n h (.s j) v->VR (bD σ τ ca ch) ay N h (.s j) v:=λ v H=>by cases H;exact .s _ _
theorem tR{i:Nat}(lt:j<N)(e:ay j=G i):∀v,VR (bD k_ mX ca ch) G n h (.r i) v->VR (bD σ τ ca ch) ay N h (.r j) v:=λ v H=>by cases H;rw[<-e];exact .r _ lt
theorem Cp{d B:Nat}{a:Addr}(H:OR (bD k_ mX ca ch) w G n h a<|.inst c d)(lt:B<N)(e:ay B=G d):OR (bD σ τ ca ch) w ay N h a (.inst c B):=⟨lt,by rw[e];exact H.2.1,H.2.2⟩
theorem Pe{a:Addr}(H:OR (bD k_ mX ca ch) w G n h a<|.list []):OR (bD σ τ ca ch) w ay N h a (.list []):=by
 refine a5 H λ ws m g v _=>?_;have:ws=[]:=eU v.1.symm;clear v;subst this;exact⟨[],m,g,.nil,by assumption⟩
theorem Gr{t:Th}(H:(Th.P ca ch t).Ok w h)(z0:σ 0=0)(r0:ay b=t.a)(J:ay (b+1)=t.b)(O:ay (b+2)=t.c)(r3:ay (b+3)=t.r)(r4:ay (b+4)=t.d)(hN:b+5<=N):∀q∈Kx b t,OR (bD σ τ ca ch) w ay N h (ay q.1) q.2:=λ q B=>by
 have o:=H.ob;simp only[Kx,List.mem_cons,List.not_mem_nil,or_false]at B;rcases B with rfl|rfl|rfl|rfl|rfl
 .have:=o (210,.inst 66 211)<|.head _;rw[r0];exact Cp this (by lia) J
 .have:=o (211,.ns [(6,.i 1 0),(7,.i 0<|Int.ofNat t.n),(8,.s 13),(9,.r 212),(10,.b false),(11,.b false),(12,.i 910 0),(14,.none)])<|.tail _<|.head _;rw[J];exact CZ this rfl (.cons ⟨rfl,tI z0 (show t.σ 1+0=t.num by show t.num+0=_;exact Int.add_zero _)⟩<|.cons ⟨rfl,tI z0 (show t.σ 0+Int.ofNat t.n=_ by show 0+(t.n:Int)=_;exact Int.zero_add _)⟩<|.cons ⟨rfl,tS⟩<|.cons ⟨rfl,tR (by lia) O⟩<|.cons ⟨rfl,tB⟩<|.cons ⟨rfl,tB⟩<|.cons ⟨rfl,tI z0 (show t.σ 910+0=_ by show(t.k:Int)+0=_;exact Int.add_zero _)⟩<|.cons ⟨rfl,tN⟩ .nil)
 .have:=o (212,.list [])<|.tail _<|.tail _<|.head _;rw[O];exact Pe this
 .have:=o (213,.inst 162 214)<|.tail _<|.tail _<|.tail _<|.head _;rw[r3];exact Cp this (by assumption) r4
 .have:=o (214,.ns [(27,.r 210),(28,.b false)])<|.tail _<|.tail _<|.tail _<|.tail _<|.head _;rw[r4];exact CZ this rfl<|.cons ⟨rfl,tR (by lia) r0⟩<|.cons ⟨rfl,tB⟩ .nil
theorem H8{e:El}(H:(El.P ca ch e).Ok w h)(z0:σ 0=0)(r0:ay b=e.a)(J:ay (b+1)=e.b)(O:ay (b+2)=e.c)(hv:e.k=0/\v=.none\/∃j,e.k≠0/\v=.r j/\ay j=e.r/\j<N)(hN:b+3<=N):∀q∈H_ b e.num v,OR (bD σ τ ca ch) w ay N h (ay q.1) q.2:=λ q B=>by
 have o:=H.ob;simp only[H_,List.mem_cons,List.not_mem_nil,or_false]at B;rcases B with rfl|rfl|rfl
 .have:=o (200,.inst 66 201)<|.head _;rw[r0];exact Cp this (by exact d4 (by assumption)) J
 .have:=o (201,.ns [(6,.i 2 0),(7,.i 0 1),(8,.none),(9,.r 202),(10,.b false),(11,.b false),(12,e.x),(14,.none)])<|.tail _<|.head _;rw[J];refine CZ this rfl<|.cons ⟨rfl,tI z0 (show e.σ 2+0=e.num by show e.num+0=_;exact Int.add_zero _)⟩<|.cons ⟨rfl,tI z0 (show e.σ 0+1=_ from rfl)⟩<|.cons ⟨rfl,tN⟩<|.cons ⟨rfl,tR (by assumption) O⟩<|.cons ⟨rfl,tB⟩<|.cons ⟨rfl,tB⟩<|.cons ⟨rfl,?_⟩<|.cons ⟨rfl,tN⟩ .nil;rcases hv with⟨h0,rfl⟩|⟨j,h0,rfl,hr,lt⟩
  .rw[El.qy h0];exact tN
  .rw[El.WZ h0];exact tR lt hr
 .have:=o (202,.list [])<|.tail _<|.tail _<|.head _;rw[O];exact Pe this
theorem uS(z0:σ 0=0):∀(l:List Th)(b:Nat),(∀t∈l,(Th.P ca ch t).Ok w h)->(∀p∈U_ b l,ay p.1=p.2)->b+5*l.length<=N->(∀q∈Ck b l,OR (bD σ τ ca ch) w ay N h (ay q.1) q.2)/\(Ck b l).map (λ q=>ay q.1)=dj (l.map<|Th.P ca ch)
 |[],b,_,_,_=>⟨λ q B=>(nomatch B),rfl⟩|t::l,b,ok,ad,hN=>by
  rw[List.length_cons]at hN;refine xA (uS z0 l (b+5) (λ t ht=>ok t<|.tail _ ht) (λ p hp=>ad p<|aF hp) (by lia)) λ i1 i2=>?_;have r0:=ad (b,t.a)<|.head _;have J:=ad (b+1,t.b)<|.tail _<|.head _;have O:=ad (b+2,t.c)<|.tail _<|.tail _<|.head _;have r3:=ad (b+3,t.r)<|.tail _<|.tail _<|.tail _<|.head _;have r4:=ad (b+4,t.d)<|.tail _<|.tail _<|.tail _<|.tail _<|.head _;refine⟨λ q B=>?_,?_⟩
  .rcases dc B with B|B
   .exact Gr (ok t<|.head _) z0 r0 J O r3 r4 (by lia) q B
   .exact i1 q B
  .rw[show Ck b (t::l)=Kx b t++Ck (b+5) l from rfl,List.map_append,i2,List.map_cons,f_];congr 1;show [ay b,ay<|b+1,ay<|b+2,ay<|b+3,ay<|b+4]=[t.a,t.b,t.c,t.r,t.d];rw[show ay b=t.a from r0,show ay (b+1)=t.b from J,show ay (b+2)=t.c from O,show ay (b+3)=t.r from r3,show ay (b+4)=t.d from r4]
theorem qm(z0:σ 0=0):∀(l:List El)(b:Nat),(∀e∈l,(El.P ca ch e).Ok w h)->(∀p∈OT b l,ay p.1=p.2)->(∀e∈l,e.k=0/\valOf TL e.k=.none\/∃j,e.k≠0/\valOf TL e.k=.r j/\ay j=e.r/\j<N)->b+3*l.length<=N->(∀q∈BW TL b l,OR (bD σ τ ca ch) w ay N h (ay q.1) q.2)/\(BW TL b l).map (λ q=>ay q.1)=dj (l.map<|El.P ca ch)
 |[],b,_,_,_,_=>⟨λ q B=>(nomatch B),rfl⟩|e::l,b,ok,ad,hv,hN=>by
  rw[List.length_cons]at hN;refine xA (qm z0 l (b+3) (λ t ht=>ok t<|.tail _ ht) (λ p hp=>ad p<|aF hp) (λ e he=>hv e<|.tail _ he) (by lia)) λ i1 i2=>?_;have r0:=ad (b,e.a)<|.head _;have J:=ad (b+1,e.b)<|.tail _<|.head _;have O:=ad (b+2,e.c)<|.tail _<|.tail _<|.head _;refine⟨λ q B=>?_,?_⟩
  .rcases dc B with B|B
   .exact H8 (ok e<|.head _) z0 r0 J O (hv e<|.head _) (by lia) q B
   .exact i1 q B
  .rw[show BW TL b (e::l)=H_ b e.num (valOf TL e.k)++BW TL (b+3) l from rfl,List.map_append,i2,List.map_cons,f_];congr 1;show [ay b,ay<|b+1,ay<|b+2]=[e.a,e.b,e.c];rw[show ay b=e.a from r0,show ay (b+1)=e.b from J,show ay (b+2)=e.c from O]
theorem tY{Z}:∀(l:List El)(b:Nat),(∀p∈OT b l,ay p.1=p.2)->b+3*l.length<=N->br Z ay N h ((yj TL b l).map λ e=>.r e.a) (pc l)
 |[],b,_,_=>.nil|e::l,b,ad,B=>by
  rw[List.length_cons]at B;refine .cons ?_<|tY l (b+3) (λ p hp=>ad p<|aF hp) (by lia);show VR Z ay N h (.r b) (.ref e.a);rw[<-show ay b=e.a from ad (b,e.a) (.head _)];exact .r b (by lia)
theorem br.rev{Z}:∀{xs:List AV}{vs:List Value},br Z G n h xs vs->br Z G n h xs.reverse vs.reverse
 |[],vs,H=>by
  have:vs=[]:=eU H.1.symm;subst this;exact .nil
 |x::xs,vs,H=>by
  refine a5 H.gf λ v l B r t=>?_;subst B;rw[List.reverse_cons,List.reverse_cons];exact t.rev.app<|.cons r .nil
end
def Fp(c:Nat)(m:re):List (Nat×AO):=cx c++dw++[(44,m.T c),(56,m.K)]
def ES(x:Ws):List Ev:=yj (iJ 300 x.T) (300+5*x.T.length) x.S
def EQ(x:Ws):List Ev:=yj (iJ 300 x.T) (300+5*x.T.length+3*x.S.length) x.Q
def Lx(x:Ws):List (Nat×AO):=[(3,.list<|x.N.map lm),(7,.seg [] 7 907 []),(10,.list<|x.H.map lm),(123,.list<|(ES x).map λ e=>.r e.a),(11,.list<|x.S.map iN),(46,.list<|(EQ x).reverse.map λ e=>.r e.a),(12,.list<|x.Q.map iN)]
def ng(x:Ws):List (Nat×AO):=Ck 300 x.T++(BW (iJ 300 x.T) (300+5*x.T.length) x.S++BW (iJ 300 x.T) (300+5*x.T.length+3*x.S.length) x.Q)
def fq(c:Nat)(x:Ws):List (Nat×AO):=Fp c x.m++Lx x++ng x
def No(x:Ws):List (Nat×Addr):=U_ 300 x.T++(OT (300+5*x.T.length) x.S++OT (300+5*x.T.length+3*x.S.length) x.Q)
theorem LG(c:Nat)(x:Ws):((Fp c x.m++Lx x).map (·.1)).Nodup:=dm (by kernel_rfl)
theorem Du(c:Nat)(x:Ws):(Fp c x.m++Lx x).all (λ q=>Nat.blt q.1 200)=true:=by kernel_rfl
theorem uU(x:Ws):(ng x).map (·.1)=List.range' 300 (5*x.T.length+(3*x.S.length+3*x.Q.length)):=by
 unfold ng;rw[List.map_append,List.map_append,(L8 _ _).1,(D6 _ _ _).1,(D6 _ _ _).1,List.range'_append_1,List.range'_append_1]
theorem z7(x:Ws):(No x).map (·.1)=List.range' 300 (5*x.T.length+(3*x.S.length+3*x.Q.length)):=by
 unfold No;rw[List.map_append,List.map_append,(L8 _ _).2,(D6 [] _ _).2,(D6 [] _ _).2,List.range'_append_1,List.range'_append_1]
theorem NL(c:Nat)(x:Ws):((fq c x).map (·.1)).Nodup:=by
 unfold fq;rw[List.map_append,uU];refine List.nodup_append.mpr ⟨LG c x,List.nodup_range',λ a ha b hb q=>?_⟩;refine a8 (eV ha) λ p hp e=>?_;exact dI (ba (e▸cK (bV (Du c x) p hp))<|ae (by decide) (jE hb).1) q
theorem E_{x}{q:Nat×AO}(h:q∈fq c x):(j5<|fq c x).get q.1=some q.2:=s9 (NL c x) h
theorem abz{x:Ws}{i:Nat}{o}(h:lk i (Fp c x.m++Lx x)=some o):(j5<|fq c x).get i=some o:=E_ (q:=(i,o))<|aU<|da h
noncomputable def dof:AO->List Nat|.inst _ d=>[d]|_=>[]
def kJ(l:List<|Nat×AO):List Nat:=l.flatMap λ q=>dof q.2
theorem fG{l k}:kJ (l++k)=kJ l++kJ k:=by simp[kJ]
theorem Pg:∀(l:List Th)(b:Nat),(kJ<|Ck b l).Sublist (List.range' b<|5*l.length)
 |[],b=>.slnil|t::l,b=>by
  have e:List.range' b (5*(t::l).length)=[b,b+1,b+2,b+3,b+4]++List.range' (b+5) (5*l.length):=by
   rw[List.length_cons,show 5*(l.length+1)=5*l.length+5 by rfl];rfl
  rw[e,show Ck b (t::l)=Kx b t++Ck (b+5) l from rfl,fG];refine List.Sublist.append ?_<|Pg l<|b+5;show [b+1,b+4].Sublist [b,b+1,b+2,b+3,b+4];exact .cons _<|.cons_cons _<|.cons _<|.cons _<|.cons_cons _ .slnil
theorem KC(TL:List Tv):∀(l:List El)(b:Nat),(kJ<|BW TL b l).Sublist (List.range' b<|3*l.length)
 |[],b=>.slnil|t::l,b=>by
  have e:List.range' b (3*(t::l).length)=[b,b+1,b+2]++List.range' (b+3) (3*l.length):=by
   rw[List.length_cons,show 3*(l.length+1)=3*l.length+3 by rfl];rfl
  rw[e,show BW TL b (t::l)=H_ b t.num (valOf TL t.k)++BW TL (b+3) l from rfl,fG];refine List.Sublist.append ?_<|KC TL l<|b+3;show [b+1].Sublist [b,b+1,b+2];exact .cons _<|.cons_cons _<|.cons _ .slnil
theorem lF(c:Nat)(x:Ws):(kJ<|Fp c x.m++Lx x).Nodup/\(kJ<|Fp c x.m++Lx x).all (λ d=>Nat.blt d 200)=true/\(kJ<|Fp c x.m++Lx x).all (λ d=> !Nat.beq d 0)=true:=⟨dm (by kernel_rfl),by kernel_rfl,by kernel_rfl⟩
theorem jJ(x:Ws):(kJ<|ng x).Sublist (List.range' 300<|5*x.T.length+(3*x.S.length+3*x.Q.length)):=by
 unfold ng;rw[fG,fG];have:=(Pg x.T 300).append<|(KC (iJ 300 x.T) x.S<|300+5*x.T.length).append<|KC (iJ 300 x.T) x.Q<|300+5*x.T.length+3*x.S.length;rwa [List.range'_append_1,List.range'_append_1]at this
theorem Fh(c:Nat)(x:Ws):(kJ<|fq c x).Nodup:=by
 unfold fq;rw[fG];refine List.nodup_append.mpr ⟨(lF c x).1,(show(List.range' 300 _).Nodup from List.nodup_range').sublist<|jJ x,λ a ha b hb q=>?_⟩;exact dI (ba (cK<|bV (lF c x).2.1 a ha)<|ae (by decide) (jE<|(jJ x).subset hb).1) q
theorem wI{d:Nat}{c':Nat}:∀{l:List<|Nat×AO},(kJ l).Nodup->∀{a b:Nat},(a,.inst c d)∈l->(b,.inst c' d)∈l->a=b
 |[],_,_,_,h,_=>nomatch h|p::l,nd,a,b,h1,h2=>by
  rw[show p::l=[p]++l from rfl,fG,List.nodup_append]at nd;have md:∀{a c},(a,AO.inst c d)∈l->d∈kJ l:=λ{a c} h=>List.mem_flatMap.mpr ⟨_,h,.head _⟩;rcases bG h1 with B|B<;>rcases bG h2 with J|J
  .rw[<-J]at B;exact(bx B).1
  .subst B;exact absurd rfl (nd.2.2 d m0 d<|md J)
  .subst J;exact absurd rfl (nd.2.2 d m0 d<|md B)
  .exact wI nd.2.1 B J
theorem tX{T S Q:Nat}(hT:T<=100)(J:S<=100)(B:Q<=100):300+(5*T+(3*S+3*Q))<=2000:=ae (Nat.add_le_add_left (dK (Nat.mul_le_mul_left 5 hT)<|dK (Nat.mul_le_mul_left 3 J)<|Nat.mul_le_mul_left 3 B) 300) (by decide)
theorem Ff{x:Ws}(hT:x.T.length<=100)(J:x.S.length<=100)(B:x.Q.length<=100):∀q∈fq c x,q.1<2000:=λ q O=>by
 rcases dc O with h|h
 .have:=cK<|bV (Du c x) q h;exact ba (by assumption) (by simp)
 .have:q.1∈(ng x).map (·.1):=bU h;rw[uU]at this;exact ba (jE this).2<|tX hT J B
theorem NN{x:Ws}(hT:x.T.length<=100)(J:x.S.length<=100)(B:x.Q.length<=100):Md (Wd<|j5<|fq c x) ⟨j5<|fq c x,2000⟩ (qU<|j5<|fq c x)/\¬Wd (j5<|fq c x) 0:=by
 refine⟨Q8 (λ i o h=>Ff hT J B _<|d_ h) (λ a c' d h=>?_) λ a b c' O d h1 h2=>wI (Fh c x) (d_ h1)<|d_ h2,λ⟨a,c',h⟩=>?_⟩
 .have hm:d∈kJ (fq c x):=List.mem_flatMap.mpr ⟨_,d_ h,.head _⟩;unfold fq at hm;rw[fG]at hm;rcases dc hm with hm|hm
  .have:=cK<|bV (lF c x).2.1 d hm;exact ba (by assumption) (by simp)
  .exact ba (jE<|(jJ x).subset hm).2 (tX hT J B)
 .have hm:0∈kJ (fq c x):=List.mem_flatMap.mpr ⟨_,d_ h,.head _⟩;unfold fq at hm;rw[fG]at hm;rcases dc hm with hm|hm
  .have:=bV (lF c x).2.2 0 hm;exact ff this
  .exact absurd (jE<|(jJ x).subset hm).1 (by decide)
theorem Cd:∀{l:List Th}{b:Nat}{v:Tv},v∈iJ b l->∃t∈l,∃i,i<l.length/\v=⟨b+5*i,b+5*i+3,b+5*i+2,t.num,t.k⟩/\∀q∈Kx (b+5*i) t,q∈Ck b l
 |[],_,_,h=>nomatch h|t::l,b,v,h=>by
  rcases bG h with rfl|h
  .exact(iU t (.head _) 0 (by exact d5 _) rfl<|λ q B=>aU B)
  .refine c9 (Cd h) λ s hs i hi e B=>?_;refine(iU s (.tail _ hs) (i+1) (by simp;assumption) ?_<|λ q J=>aF<|B q ?_)
   .rw[e,Oj b 5 i]
   .rw[Oj b 5 i];exact J
theorem y_:∀{l:List Th}{b:Nat}{t:Th},t∈l->∃i,i<l.length/\(⟨b+5*i,b+5*i+3,b+5*i+2,t.num,t.k⟩:Tv)∈iJ b l/\(b+5*i+3,t.r)∈U_ b l
 |[],_,_,h=>nomatch h|t::l,b,s,h=>by
  rcases bG h with rfl|h
  .exact(cC 0 (by exact d5 _) (.head _)<|.tail _<|.tail _<|.tail _<|.head _)
  .refine bc (y_ (b:=b+5) h) λ i hi e B=>?_;refine(cC (i+1) (by simp;assumption) ?_ ?_)
   .rw[<-Oj b 5 i];exact .tail _ e
   .rw[<-Oj b 5 i];exact aF B
theorem EC:∀{l:List El}{b:Nat}{v:Ev},v∈yj TL b l->∃e∈l,∃i,i<l.length/\v=⟨b+3*i,e.num,b+3*i+2,valOf TL e.k,e.k⟩/\∀q∈H_ (b+3*i) e.num (valOf TL e.k),q∈BW TL b l
 |[],_,_,h=>nomatch h|t::l,b,v,h=>by
  rcases bG h with rfl|h
  .exact(iU t (.head _) 0 (by exact d5 _) rfl<|λ q B=>aU B)
  .refine c9 (EC h) λ s hs i hi e B=>?_;refine(iU s (.tail _ hs) (i+1) (by simp;assumption) ?_<|λ q J=>aF<|B q ?_)
   .rw[e,Oj b 3 i]
   .rw[Oj b 3 i];exact J
theorem rW:∀(l:List Th)(b:Nat),(iJ b l).map (·.k)=l.map (·.k)/\(iJ b l).map (·.n)=l.map (·.num)/\(iJ b l).length=l.length/\((iJ b l).map (·.a)).Sublist (List.range' b<|5*l.length)
 |[],b=>⟨rfl,rfl,rfl,.slnil⟩|t::l,b=>by
  refine iI (rW l<|b+5) λ h1 h2 B J=>?_;refine⟨congrArg (t.k:: ·) h1,congrArg (t.num:: ·) h2,congrArg (· +1) B,?_⟩;rw[List.length_cons,show 5*(l.length+1)=5*l.length+5 by rfl];simp only[List.range'_succ];exact .cons_cons _<|.cons _<|.cons _<|.cons _<|.cons _ J
theorem jS(TL:List Tv):∀(l:List El)(b:Nat),(yj TL b l).map (·.k)=l.map (·.k)/\(yj TL b l).map (·.n)=l.map (·.num)/\(yj TL b l).length=l.length/\((yj TL b l).map (·.a)).Sublist (List.range' b<|3*l.length)
 |[],b=>⟨rfl,rfl,rfl,.slnil⟩|t::l,b=>by
  refine iI (jS TL l<|b+3) λ h1 h2 B J=>?_;refine⟨congrArg (t.k:: ·) h1,congrArg (t.num:: ·) h2,congrArg (· +1) B,?_⟩;rw[List.length_cons,show 3*(l.length+1)=3*l.length+3 by rfl];simp only[List.range'_succ];exact .cons_cons _<|.cons _<|.cons _ J
theorem zR(TL:List Tv)(t:Tv)(l:List El)(b:Nat):cnt t (yj TL b l)=l.countP λ e=>e.k==t.k:=by
 have h:=(jS TL l b).1;have B:cnt t (yj TL b l)=((yj TL b l).map (·.k)).countP λ k=>k==t.k:=by unfold cnt;rw[List.countP_map];rfl
 rw[B,h,List.countP_map];rfl
theorem uO{k:Nat}(h:∀t∈TL,t.k≠k):valOf TL k=.none:=by
 unfold valOf;rw[List.find?_eq_none.mpr λ t B=>by simpa using h t B]
theorem uN(nd:(TL.map (·.k)).Nodup){t:Tv}(h:t∈TL):valOf TL t.k=.r t.r:=by
 unfold valOf;cases q:TL.find? (λ s=>s.k==t.k)with
 |none=>exact absurd (List.find?_eq_none.mp q t h) (by simp)|some s=>
  have hs:=jb q;have B:=List.find?_some q;rw[zo nd hs h (by simpa using B)]
section
variable{x:Ws}
theorem Ma.Kv(M:Ma x):x.T.length<=x.N.length:=by
 have nd:(x.T.map (·.k)).Nodup:=List.pairwise_map.mpr M.dk;have sub:x.T.map (·.k)⊆List.range' 1 x.N.length:=λ k J=>by
  refine a8 (eV J) λ t B O=>?_;subst O;have h0:=(M.th t B).2.1;have h1:=M.IX t B;exact List.mem_range'_1.mpr ⟨h0,by lia⟩
 have:=nd.length_le_of_subset sub;simpa using this
theorem Ma.tk(M:Ma x):((iJ 300 x.T).map (·.k)).Nodup:=by rw[(rW _ _).1];exact List.pairwise_map.mpr M.dk
theorem JR(t:Tv):cnt t (EQ x).reverse=x.Q.countP λ e=>e.k==t.k:=by
 rw[lR<|List.reverse_perm _];exact zR _ _ _ _
theorem JS(t:Tv):cnt t (ES x++(EQ x).reverse)=(x.S++x.Q).countP λ e=>e.k==t.k:=by
 rw[show cnt t (ES x++(EQ x).reverse)=cnt t (ES x)+cnt t (EQ x).reverse from List.countP_append,JR,List.countP_append];congr 1;exact zR _ _ _ _
theorem Ma.more(M:Ma x){B}(hB:∀e∈B,e∈x.S++x.Q){DL:List Tv}(nd:(DL.map (·.k)).Nodup)(hD:∀t,t∈DL↔t∈iJ 300 x.T/\∀e∈B,e.k≠t.k):(np (x.S++x.Q) x.N++DL.map (·.n)).Perm (np B x.N):=by
 have num:∀t∈DL,0<t.k/\x.N.getD (t.k-1) 0=t.n/\t.k<=x.N.length/\∃e∈x.S++x.Q,e.k=t.k:=λ t O=>by
  refine c9 (Cd ((hD t).mp O).1) λ s hs i hi e _=>?_;refine eG (M.th s hs) λ _ h0 hN hc hn=>?_;subst e;refine⟨h0,by simp[List.getD,hN],M.IX s hs,?_⟩;have:0<(x.S++x.Q).countP λ e=>e.k==s.k:=hc▸Qa hn;refine a8 (List.countP_pos_iff.mp this) λ e J hk=>?_;exact⟨e,J,by simpa using hk⟩
 have e1:DL.map (·.n)=(DL.map λ t=>t.k-1).map λ i=>x.N.getD i 0:=by
  rw[List.map_map];exact List.map_congr_left λ t O=>(num t O).2.1.symm
 unfold np;rw[e1,<-List.map_append];refine List.Perm.map _ ((List.perm_ext_iff_of_nodup ?_<|List.nodup_range.sublist List.filter_sublist).mpr λ i=>?_)
 .refine List.nodup_append.mpr ⟨List.nodup_range.sublist List.filter_sublist,?_,λ a ha b hb q=>?_⟩
  .refine List.pairwise_map.mpr ((List.pairwise_map.mp nd).imp_of_mem λ{a b} ha hb h q=>h ?_);exact Nat.pred_inj (num a ha).1 (num b hb).1 q
  .refine a8 (eV hb) λ t O z2=>?_;subst z2;subst q;have g:=b_.mp (List.mem_filter.mp ha).2;refine iI (num t O) λ h0 _ _ fy=>a8 fy λ e J hk=>?_;exact g e J (hk.trans (Nat.sub_add_cancel h0).symm)
 .rw[List.mem_append,List.mem_filter,List.mem_filter,List.mem_range];constructor
  .rintro (⟨h1,h2⟩|h)
   .exact⟨h1,b_.mpr λ e J=>b_.mp h2 e<|hB e J⟩
   .refine a8 (eV h) λ t O z2=>?_;subst z2;refine iI (num t O) λ h0 _ h1 _=>?_;refine⟨ba (Nat.sub_lt h0 Nat.one_pos) h1,b_.mpr λ e J q=>((hD t).mp O).2 e J<|q.trans<|Nat.sub_add_cancel h0⟩
  .rintro ⟨h1,h2⟩
   cases g:kg (x.S++x.Q) i with|true=>exact .inl ⟨h1,rfl⟩|false=>
    right;have:∃e∈x.S++x.Q,e.k=i+1:=by
     have:¬ ∀e∈x.S++x.Q,e.k≠i+1:=λ h=>by rw[b_.mpr h]at g;exact tf g
     exact Classical.byContradiction λ hn=>this λ e J q=>hn ⟨e,J,q⟩
    refine a8 this λ e J hk=>?_;refine bc (M.has e J<|hk▸Nat.succ_ne_zero i) λ t O tk _=>?_;refine bc (y_ (b:=300) O) λ j _ hm _=>?_;refine List.mem_map.mpr ⟨_,(hD _).mpr ⟨hm,λ f hf q=>b_.mp h2 f hf ?_⟩,?_⟩
    .show f.k=i+1;exact(show f.k=t.k from q).trans (tk.trans hk)
    .show t.k-1=i;rw[tk,hk];rfl
theorem Ma.Qg(M:Ma x){dd:List Tv}(pd:dd.Perm<|sK (iJ 300 x.T) (EQ x).reverse):(x.H++dd.map (·.n)).Perm (np x.Q x.N):=by
 refine(List.Perm.append_right _ M.hd).trans (M.more (λ e B=>aF B) ?_ λ t=>?_)
 .exact((pd.map _).nodup_iff).mpr (M.tk.sublist<|List.filter_sublist.map _)
 .rw[pd.mem_iff,sK,List.mem_filter,JR];simp[List.countP_eq_zero]
theorem Ma.Qf(M:Ma x){J O:List Tv}(p1:J.Perm<|sK (iJ 300 x.T) (EQ x).reverse)(p2:O.Perm<|left (iJ 300 x.T) (EQ x).reverse):(x.H++(J++O).map (·.n)).Perm (np [] x.N):=by
 have p:(J++O).Perm (iJ 300 x.T):=(p1.append p2).trans<|List.filter_append_perm _ _;refine(List.Perm.append_right _ M.hd).trans (M.more (B:=[]) (λ e he=>(nomatch he)) ?_ λ t=>?_)
 .exact((p.map _).nodup_iff).mpr M.tk
 .rw[p.mem_iff];simp
end
section
variable{x:Ws}{b:Nat}
theorem J_{e}(h:e∈ES x):∃u∈x.S,∃i,i<x.S.length/\e=⟨300+5*x.T.length+3*i,u.num,300+5*x.T.length+3*i+2,valOf (iJ 300 x.T) u.k,u.k⟩/\∀q∈H_ (300+5*x.T.length+3*i) u.num (valOf (iJ 300 x.T) u.k),q∈fq c x:=by
 refine c9 (EC h) λ u J i hi e B=>?_;exact(iU u J i hi e<|λ q h=>aF<|aF<|aU<|B q h)
theorem Ka{e}(h:e∈EQ x):∃u∈x.Q,∃i,i<x.Q.length/\e=⟨300+5*x.T.length+3*x.S.length+3*i,u.num,300+5*x.T.length+3*x.S.length+3*i+2,valOf (iJ 300 x.T) u.k,u.k⟩/\∀q∈H_ (300+5*x.T.length+3*x.S.length+3*i) u.num (valOf (iJ 300 x.T) u.k),q∈fq c x:=by
 refine c9 (EC h) λ u J i hi e B=>?_;exact(iU u J i hi e<|λ q h=>aF<|aF<|aF<|B q h)
theorem Oa{e}(h:e∈ES x++(EQ x).reverse):∃u∈x.S++x.Q,∃b,300<=b/\e=⟨b,u.num,b+2,valOf (iJ 300 x.T) u.k,u.k⟩/\∀q∈H_ b u.num (valOf (iJ 300 x.T) u.k),q∈fq c x:=by
 rcases dc h with h|h
 .refine c9 (J_ (c:=c) h) λ u J i _ e B=>?_;exact(iU u (aU J) _ (Nat.le_add_right_of_le<|bL _ _) e B)
 .refine c9 (Ka (c:=c)<|List.mem_reverse.mp h) λ u J i _ e B=>?_;exact(iU u (aF J) _ (Nat.le_add_right_of_le<|Nat.le_add_right_of_le<|bL _ _) e B)
theorem yH{v}(h:v∈iJ 300 x.T):∃t∈x.T,∃i,i<x.T.length/\v=⟨300+5*i,300+5*i+3,300+5*i+2,t.num,t.k⟩/\∀q∈Kx (300+5*i) t,q∈fq c x:=by
 refine c9 (Cd h) λ t J i hi e B=>?_;exact(iU t J i hi e<|λ q h=>aF<|aU<|B q h)
theorem rh{l:List El}{b:Nat}(h:l.Pairwise λ a b=>a.num<b.num):((yj TL b l).map (·.n)).Nodup:=by
 rw[(jS _ _ _).2.1];exact List.pairwise_map.mpr<|h.imp λ q z=>Int.ne_of_lt q z
theorem EI{T:TR AO}(hT:∀q∈fq c x,T.get q.1=some q.2)(M:Ma x)(B:Bd x b)(hb:b<8):rO (qU T) c (ES x) (EQ x).reverse (iJ 300 x.T) (x.S.map iN) (x.Q.map iN) x.N x.H:=by
 have g:∀{i o},lk i (Fp c x.m++Lx x)=some o->T.get i=some o:=λ h=>hT (_,_)<|aU<|da h;have ob:∀{a cl d es},lk a (Fp c x.m++Lx x)=some (.inst cl d)->lk d (Fp c x.m++Lx x)=some (.ns es)->(qU T).ob a=some (cl,es):=λ h1 h2=>zy (g h1)<|g h2;have ls:∀{i l},lk i (Fp c x.m++Lx x)=some (.list l)->(qU T).ls i=some l:=λ h=>D_<|g h;have fx:∀{i o},lk i (Fp c x.m++Lx x)=some o->plain o=true->(qU T).fx i=some o:=λ h1 h2=>R8 (g h1) h2;have k0:∀t∈iJ 300 x.T,t.k≠0:=λ t O=>by
  refine c9 (yH (c:=c) O) λ s hs i _ J _=>?_;subst J;have:=(M.th s hs).2.1;show s.k≠0;exact cV (by assumption)
 have lT:=M.Kv;have AX:∀{n},n<=b->n<=20:=λ h=>ae h<|ae (d4 hb) (by decide);have h5:∀{i:Nat},256<=300+i:=λ{i}=>ae (by decide)<|bL 300 i;have bS:=B.S;have bQ:=B.Q;have bN:=B.N;have bH:=B.H;refine iI (rW x.T 300) λ h6 h3 h4 W9=>?_;refine iI (jS (iJ 300 x.T) x.S<|300+5*x.T.length) λ _ _ z4 WE=>?_;refine iI (jS (iJ 300 x.T) x.Q<|300+5*x.T.length+3*x.S.length) λ _ _ ht VJ=>?_;refine⟨⟨ob (d:=14) (by kernel_rfl) (by kernel_rfl),ls (by kernel_rfl),⟨_,ob (d:=43) (es:=[(70,.r 54),(81,.r 55),(82,.i 0 0),(26,.none),(20,.s 21),(83,.i 0 1),(190,.i 0 0),(191,.t [.i 0 0,.i 0 0]),(193,.r 56)]) (by kernel_rfl) (by kernel_rfl),rfl⟩,ls (by kernel_rfl),fx (by kernel_rfl) rfl,ls (by kernel_rfl)⟩,
  ⟨ob (d:=33) (by kernel_rfl) (by kernel_rfl),⟨.i 3 (-1),ob (d:=32) (by kernel_rfl) (by kernel_rfl)⟩,ls (by kernel_rfl),fx (by kernel_rfl) rfl,fx (by kernel_rfl) rfl,fx (by kernel_rfl) rfl,fx (by kernel_rfl) rfl,fx (by kernel_rfl) rfl⟩,
  ob (d:=82) (by kernel_rfl) (by kernel_rfl),ob (d:=83) (by kernel_rfl) (by kernel_rfl),ob (d:=113) (by kernel_rfl) (by kernel_rfl),ob (d:=15) (by kernel_rfl) (by kernel_rfl),ob (d:=119) (by kernel_rfl) (by kernel_rfl),ob (d:=38) (by kernel_rfl) (by kernel_rfl),ls (by kernel_rfl),ls (by kernel_rfl),ls (by kernel_rfl),ls (by kernel_rfl),
  λ e he=>?_,λ t O=>?_,ls (by kernel_rfl),ls (by kernel_rfl),ls (by kernel_rfl),ls (by kernel_rfl),ls (by kernel_rfl),ls (by kernel_rfl),λ e he=>?_,k0,M.tk,?_,λ t O=>?_,?_,?_,λ e he=>?_,λ t O=>?_,?_,λ t O h=>?_,?_,?_,?_,ae bH<|ae (d4 hb) (by decide),AX bN,vZ<|AX bS,vZ<|AX bQ⟩
 .refine c9 (Oa (c:=c) he) λ u hu b _ J hq=>?_;subst J;exact⟨zy (hT _<|hq (b,.inst 66<|b+1)<|.head _)<|hT _<|hq (b+1,_)<|.tail _<|.head _,D_<|hT _<|hq (b+2,.list [])<|.tail _<|.tail _<|.head _⟩
 .refine c9 (yH (c:=c) O) λ s hs i _ J hq=>?_;subst J;have hn:=(M.th s hs).2.2.2.1;rw[JS];refine⟨?_,zy (hT _<|hq (300+5*i+3,.inst 162<|300+5*i+4)<|.tail _<|.tail _<|.tail _<|.head _)<|hT _<|hq (300+5*i+4,_)<|.tail _<|.tail _<|.tail _<|.tail _<|.head _,D_<|hT _<|hq (300+5*i+2,.list [])<|.tail _<|.tail _<|.head _⟩;have:=zy (hT _<|hq (300+5*i,.inst 66<|300+5*i+1)<|.head _)<|hT _<|hq (300+5*i+1,.ns<|jw s.num s.n (.s 13) (300+5*i+2) false false<|.i 0 s.k)<|.tail _<|.head _;rw[hn]at this;exact this
 .refine c9 (Oa (c:=c) he) λ u hu b _ J hq=>?_;subst J;by_cases h0:u.k=0
  .left;exact⟨h0,uO λ t O q=>k0 t O<|q.trans h0⟩
  .right;refine bc (M.has u hu h0) λ t O tk _=>?_;refine bc (y_ (b:=300) O) λ i _ hm _=>?_;refine(cC _ hm tk ?_);have:=uN M.tk hm;rw[<-this];exact congrArg (valOf _) tk.symm
 .rw[h3];refine List.pairwise_map.mpr<|M.dk.imp_of_mem λ{s t} hs O h q=>h ?_;refine iI (M.th s hs) λ _ s0 sN _=>?_;refine iI (M.th t O) λ _ t0 tN _=>?_;have inj:s.k-1=t.k-1:=by
   refine xE (List.getElem?_eq_some_iff.mp sN) λ l1 e1=>?_;refine xE (List.getElem?_eq_some_iff.mp tN) λ l2 e2=>?_;rcases Nat.lt_trichotomy (s.k-1) (t.k-1)with z|z|z
   .have:=List.pairwise_iff_getElem.mp M.qM _ _ l1 l2 z;rw[e1,e2]at this;exact absurd q (Int.ne_of_lt this)
   .exact z
   .have:=List.pairwise_iff_getElem.mp M.qM _ _ l2 l1 z;rw[e1,e2]at this;exact absurd q.symm (Int.ne_of_lt this)
  exact Nat.pred_inj s0 t0 inj
 .refine c9 (yH (c:=c) O) λ s hs i _ J hq=>?_;subst J;refine eG (M.th s hs) λ _ _ _ hn Bf=>?_;rw[JS];show((x.S++x.Q).countP λ e=>e.k==s.k)=1\/((x.S++x.Q).countP λ e=>e.k==s.k)=2;rw[<-hn];exact Bf
 .exact rh M.su
 .exact((List.reverse_perm _).map _).nodup_iff.mpr (rh M.sF)
 .refine c9 (Oa (c:=c) he) λ u hu b hb J hq=>?_;subst J;exact⟨ae (by decide) hb,Nat.le_add_right_of_le<|ae (by decide) hb⟩
 .refine c9 (yH (c:=c) O) λ s hs i _ J hq=>?_;subst J;exact⟨h5,Nat.le_add_right_of_le h5,Nat.le_add_right_of_le h5⟩
 .have s1:=(WE.append VJ).append W9;have nd:((ES x++EQ x).map (·.a)++(iJ 300 x.T).map (·.a)).Nodup:=by
   rw[List.map_append];refine List.nodup_append.mpr ⟨List.nodup_append.mpr ⟨(show(List.range' _ _).Nodup from List.nodup_range').sublist WE,(show(List.range' _ _).Nodup from List.nodup_range').sublist VJ,λ a ha b hb q=>?_⟩,(show(List.range' _ _).Nodup from List.nodup_range').sublist W9,λ a ha b hb q=>?_⟩
   .exact dI (ba (jE<|WE.subset ha).2 (jE<|VJ.subset hb).1) q
   .have Bb:=jE<|W9.subset hb;rcases dc ha with ha|ha
    .exact cV (ba Bb.2 (jE<|WE.subset ha).1) q
    .exact cV (ba Bb.2<|ae (bL _ _) (jE<|VJ.subset ha).1) q
  refine((List.Perm.append_right _<|(List.Perm.append_left _<|List.reverse_perm _).map _).nodup_iff).mpr nd
 .refine c9 (yH (c:=c) O) λ s hs i hi J hq=>?_;subst J;rcases dc h with h|h
  .refine a8 (eV h) λ e he q=>?_;rcases dc he with he|he
   .refine c9 (J_ (c:=c) he) λ u hu j _ J _=>?_;subst J;exact cV (ba (t5 hi)<|bL _ _) q
   .refine c9 (Ka (c:=c)<|List.mem_reverse.mp he) λ u hu j _ J _=>?_;subst J;exact cV (ba (t5 hi)<|Nat.le_add_right_of_le<|bL _ _) q
  .refine a8 (eV h) λ v hv q=>?_;refine c9 (yH (c:=c) hv) λ u hu j _ J _=>?_;subst J;have q:300+5*j=300+5*i+3:=q;lia
 .exact ae (cB z4) (AX bS)
 .show(yj _ _ x.Q).reverse.length<=20;rw[List.length_reverse];exact ae (cB ht) (AX bQ)
 .exact ae (cB h4) (ae lT<|AX bN)
end
section
variable{ca:Nat->Obj}{ch:Nat->Nat->FuncData->Prop}{w:World}{G:Nat->Addr}{s:Shared}{b:Nat}{x:Ws}{Q:Flow->Shared->Prop}{E:Value->Shared->Prop}
theorem GL(G:Nat->Addr)(x:Ws):∀p∈No x,vj G (No x) p.1=p.2:=λ p hp=>by
 have nd:((No x).map (·.1)).Nodup:=by rw[z7];exact List.nodup_range'
 have:p.1∈(No x).map (·.1):=bU hp;rw[z7]at this;have:=(jE this).1;unfold vj;rw[if_neg<|Nat.not_lt.mpr<|Nat.le_trans (by decide) this,ro nd (v:=p.2) hp];rfl
theorem sf(x:Ws){i:Nat}(h:i<256):vj G (No x) i=G i:=if_pos h
theorem MJ(hc:c=2\/c=3)(O:on w s.heap<|J2 ca ch (cx c) c G x V Rs)(L:LV x us V)(M:Ma x)(B:Bd x b)(hb:b<8):
  SR (zv ca ch 21 22 0 0 0 x V) w (vj G<|No x) ⟨j5<|fq c x,2000⟩ s.heap/\Apart (vj G<|No x) ⟨j5<|fq c x,2000⟩ Rs/\on w s.heap Rs:=by
 have lT:=M.Kv;have b1:=ae B.N<|d4 hb;have b2:=ae B.H<|d4 hb;have b3:=ae B.S<|d4 hb;have b4:=ae B.Q<|d4 hb;have h8:=ae lT b1;have s3:300+5*x.T.length+3*x.S.length+3*x.Q.length<=2000:=ae (dK (dK (Nat.add_le_add_left (Nat.mul_le_mul_left 5 h8) 300)<|Nat.mul_le_mul_left 3 b3)<|Nat.mul_le_mul_left 3 b4) (by decide);have s2:=ae (bL _ _) s3;have s1:=ae (bL _ _) s2;have z0:(zv ca ch 21 22 0 0 0 x V).σ 0=0:=rfl;have le:∀{I:Type}{l:List I}{f:I->AV},l.length<=8->(l.map f).length<=10000:=λ h=>ae (cB<|List.length_map _)<|ae h (by decide);have O1:on w s.heap (fP ca ch (cx c) G x.l x.st x.tn (x.m.T c) x.m.K::(ed ca ch G V++(x.T.map (Th.P ca ch)++(x.S.map (El.P ca ch)++x.Q.map (El.P ca ch)))++Rs)):=O.perm<|.cons _<|.append_right _<|.append_left _ (by unfold mW;rw[List.map_append];exact List.perm_append_comm);have ok:∀P∈x.T.map (Th.P ca ch)++(x.S.map (El.P ca ch)++x.Q.map (El.P ca ch)),P.Ok w s.heap:=λ P hP=>O1.ok P<|.tail _<|aU<|aF hP;have h3:∀t∈x.T,(Th.P ca ch t).Ok w s.heap:=λ t J=>ok _<|aU<|bU J;have ht:∀e∈x.S,(El.P ca ch e).Ok w s.heap:=λ t J=>ok _<|aF<|aU<|bU J;have VP:∀e∈x.Q,(El.P ca ch e).Ok w s.heap:=λ t J=>ok _<|aF<|aF<|bU J;have ra:=GL G x;have hv:∀e∈x.S++x.Q,e.k=0/\valOf (iJ 300 x.T) e.k=.none\/∃j,e.k≠0/\valOf (iJ 300 x.T) e.k=.r j/\vj G (No x) j=e.r/\j<2000:=λ e he=>by
  by_cases h0:e.k=0
  .refine .inl ⟨h0,uO λ t J q=>?_⟩;refine c9 (yH (c:=c) J) λ s hs i _ z4 _=>?_;clear J;subst z4;have:=(M.th s hs).2.1;exact cV this ((show s.k=e.k from q).trans h0)
  .refine du (M.has e he h0) λ t J tk tr _=>?_;refine bc (y_ (b:=300) J) λ i hi hm ha=>?_;refine .inr (iC (300+5*i+3) h0 ?_ ?_<|ba (t5 hi) s1)
   .have:=uN M.tk hm;rw[<-tk];exact this
   .rw[<-tr];exact ra (_,t.r) (aU ha)
 refine xA (uS (σ:=(zv ca ch 21 22 0 0 0 x V).σ) (τ:=(zv ca ch 21 22 0 0 0 x V).τ) (N:=2000) z0 x.T 300 h3 (λ p hp=>ra p<|aU hp) s1) λ t1 t2=>?_;refine xA (qm (σ:=(zv ca ch 21 22 0 0 0 x V).σ) (τ:=(zv ca ch 21 22 0 0 0 x V).τ) (N:=2000) (TL:=iJ 300 x.T) z0 x.S (300+5*x.T.length) ht (λ p hp=>ra p<|aF<|aU hp) (λ e he=>hv e<|aU he) s2) λ u1 u2=>?_;refine xA (qm (σ:=(zv ca ch 21 22 0 0 0 x V).σ) (τ:=(zv ca ch 21 22 0 0 0 x V).τ) (N:=2000) (TL:=iJ 300 x.T) z0 x.Q (300+5*x.T.length+3*x.S.length) VP (λ p hp=>ra p<|aF<|aF hp) (λ e he=>hv e<|aF he) s3) λ q1 q2=>?_;have lE:∀{b:Nat}{l:List El},l.length<=8->(yj (iJ 300 x.T) b l).length<=8:=λ h=>(jS _ _ _).2.2.1▸h;have R:=mx (N:=2000) (ls:=Lx x) (be:=ng x) (ρV:=vj G<|No x) (σ:=(zv ca ch 21 22 0 0 0 x V).σ) (τ:=(zv ca ch 21 22 0 0 0 x V).τ) (by decide) hc (jK c hc) O1
  (λ q hq=>qI.or (O1.ok _<|.tail _<|aU<|aU<|List.mem_map.mpr ⟨q.1,(bU hq:q.1∈(Lx x).map (·.1)),rfl⟩)
   ((aC ⟨lg z0 L.N,le b1⟩<|aC (w7 rfl rfl)<|aC ⟨lg z0 L.H,le b2⟩<|aC ⟨L.s▸tY _ _ (λ p hp=>ra p<|aF<|aU hp) s2,le<|lE b3⟩<|aC ⟨lb z0 L.X,le b3⟩<|
    aC ⟨by rw[L.q,List.map_reverse];exact(tY _ _ (λ p hp=>ra p<|aF<|aF hp) s3).rev,le<|ae (cB List.length_reverse)<|lE b4⟩<|aC ⟨lb z0 L.Y,le b4⟩ aZ:
    ∀q∈Lx x,qI (zv ca ch 21 22 0 0 0 x V) (vj G<|No x) 2000 s.heap q.2<|V q.1) q hq)) rfl
  (λ q hq=>⟨Ff (c:=c) (ae h8 (by decide)) (ae b3 (by decide)) (ae b4 (by decide)) q<|aF hq,aA t1 (aA u1 q1) q hq⟩) (by unfold ng;rw[List.map_append,List.map_append,t2,u2,q2,gz,gz]) (λ i hi=>sf x<|dN hi (by decide)) (Vy (ca:=ca) (ch:=ch))
 exact⟨R.1,R.2,O1.right (Ps:=fP ca ch (cx c) G x.l x.st x.tn (x.m.T c) x.m.K::(ed ca ch G V++(x.T.map (Th.P ca ch)++(x.S.map (El.P ca ch)++x.Q.map (El.P ca ch)))))⟩
theorem MI(C:∀σ τ cr,kV (bD σ τ ca ch) (bI cr) ig ja)(hc:c=2\/c=3)(N:a7 (bD (λ _=>0) (λ _=>[]) ca ch) G 256 0 [(321,1)] sc env)(hB:aV (dn NM ig ja j sc) ML body=true)(r:bt 250 A)(α:Inv ca ch w s.heap (cx c) c G x us Rs)(M:Ma x)(B:Bd x b)(hb:b<8)(eZ:us.length<=100)(q:∀s',Sm s s'->on w s'.heap Rs->Q (.ret<|.bool true) s'):aD w A (execs body env) Q E s:=by
 have tE:=M.tE;have:=B.l;have:=B.st;have:=B.b;have lT:=M.Kv;have:=B.S;have:=B.Q;have:=B.N;refine a8 α.own λ V O L=>?_;have Sg:iH (zv ca ch 21 22 0 0 0 x V).σ (zv ca ch 21 22 0 0 0 x V).τ (jV 5 (Kd.dL).way):=yQ (by decide) (by decide) (cX (by decide) tE) B (by decide) (by decide) rfl<|L.len B B.b eZ;refine ib (MJ hc O L M B hb) λ S ap hR=>?_;refine xA (NN (c:=c) (x:=x) (ae lT<|ae B.N B.b) (ae B.S B.b)<|ae B.Q B.b) λ Mm nD=>?_;have Y:=EI (T:=j5<|fq c x) (λ q hq=>E_ hq) M B hb;have F:Fr (Wd<|j5<|fq c x) ⟨.nil,0⟩ 0 [(325,.r 2),(316,.r 3),(122,.r 4),(264,.r 5),(294,.r 6),(326,.r 7),(63,.r 8),(22,.s c),(317,.r 9),(328,.i 1801 0),(329,.b true)] [] (qU<|j5<|fq c x) ⟨j5<|fq c x,2000⟩:=
  ⟨Mm,⟨dp _,λ i o h=>by exact nn h⟩,abz (by kernel_rfl),nD,rfl,λ p hp=>nomatch hp⟩
 have Zp:∀dd:List Tv,dd.Perm (sK (iJ 300 x.T) (EQ x).reverse)->((x.H++([19]:List Int))++dd.map λ t:Tv=>t.n).Perm ((((List.range x.N.length).filter λ i=> !(x.Q.any λ e=>e.k==i+1)).map λ i=>x.N.getD i 0)++(([]:List Int)++[19])):=λ dd pd=>by
  rw[ql];have p:=M.Qg pd;have p2:((x.H++([19]:List Int))++dd.map λ t:Tv=>t.n).Perm ((x.H++dd.map λ t:Tv=>t.n)++[19]):=by
   rw[List.append_assoc,List.append_assoc];exact List.Perm.append_left _ List.perm_append_comm
  exact p2.trans (p.append_right _)
 have Zo:∀J d2:List Tv,J.Perm (sK (iJ 300 x.T) (EQ x).reverse)->d2.Perm (left (iJ 300 x.T) (EQ x).reverse)->((((x.H++([19]:List Int))++J.map λ t:Tv=>t.n)++([24]:List Int))++d2.map λ t:Tv=>t.n).Perm ((((List.range x.N.length).filter λ i=> !false).map λ i=>x.N.getD i 0)++(([19]:List Int)++[24])):=λ J d2 p1 p2=>by
  have p:=M.Qf p1 p2;have e0:(((List.range x.N.length).filter λ i=> !false).map λ i=>x.N.getD i 0)=np [] x.N:=ql [] x.N;rw[e0];have p3:((((x.H++([19]:List Int))++J.map λ t:Tv=>t.n)++([24]:List Int))++d2.map λ t:Tv=>t.n).Perm ((x.H++(J++d2).map λ t:Tv=>t.n)++(([19]:List Int)++[24])):=by
   rw[List.perm_iff_count];intro a;simp only[List.count_append,List.map_append];lia
  exact p3.trans (p.append_right _)
 refine xE (Tw (cr:=jV 5 (Kd.dL).way) (y:=λ k=>x.Q.any λ e=>e.k==k+1) F rfl rfl rfl rfl Y (λ k _=>pY k x.Q) Zp Zo) λ ab e=>?_;refine(qg Sg (C _ _ _) w 250).S e hB r (N.low rfl (sf x (by decide)) (sf x (by decide)) (by decide:1<2000)) S λ ay uG s' a Fl=>?_;cases Fl with|ret V=>cases V;exact q s' (a.sm S) (cO S a hR ap).1
end
theorem IA(P:Params):(Fj P).all (λ p=> !Nat.beq p.1 1352)=true:=by kernel_rfl
theorem IB:BK.all (λ p=> !Nat.beq p.1 1352)=true:=by kernel_rfl
theorem Ready.but{w}{h:Heap}(x:Ready w h)(k:∀b o,b≠1352->h.get? b=some o->h'.get? b=some o):Ready w h':=by
 have ne:∀{q:Nat},(!Nat.beq q 1352)=true->q≠1352:=λ{q} e z=>by subst z;exact ff e
 refine⟨λ p hp=>k _ _ (ne<|bV (IA w.params) p hp)<|x.pR p hp,λ p hp=>?_⟩;refine fU (x.codes p hp) λ c o vs t e g r=>?_;cases e;exact⟨_,o,vs,t,rfl,k _ _ (ne<|bV IB p hp) g,r⟩
variable{ao:AO}
section
variable{Z:Sy}{w:World}{G:Nat->Addr}{h:Heap}{n:Nat}
theorem SR.but(S:SR Z w G st h)(k:∀b o,b≠1352->h.get? b=some o->h'.get? b=some o)(tk:bh h h'):SR Z w G st h':=by
 refine⟨S.lt,S.lo,λ i o e=>?_,S.inj,Ready.but S.ready k⟩;have H:=S.ob i o e;refine xE H.live λ ob B=>?_;exact H.keeps (a9 _) (λ _ _=>rfl) tk<|(k _ _ (λ z=>absurd (S.lo i o e) (by rw[z];decide)) B).trans B.symm
theorem SR.adopt(S:SR Z w G st h){a:Addr}(J:∀i o,st.T.get i=some o->G i≠a)(lo:1358<=a)(H:∀ay,(∀i,i<st.nx->ay i=G i)->ay st.nx=a->OR Z w ay (st.nx+1) h a ao):
  ∃ay,ay st.nx=a/\(∀i,i<st.nx->ay i=G i)/\SR Z w ay (fH.V.a_ ao st) h:=by
 have g:∀i o,(fH.V.a_ ao st).T.get i=some o->(i=st.nx/\o=ao)\/(i<st.nx/\st.T.get i=some o):=λ i o e=>by
  have e:(st.T.dL ao st.nx).get i=some o:=e;rw[TR.bu]at e;by_cases q:i=st.nx
  .rw[if_pos q]at e;obtain rfl:=sI e;exact .inl ⟨q,rfl⟩
  .rw[if_neg q]at e;exact .inr ⟨S.lt i o e,e⟩
 obtain⟨ay,same,self⟩:∃ay:Nat->Addr,(∀i,i<st.nx->ay i=G i)/\ay st.nx=a:=⟨λ i=>if i=st.nx then a else G i,λ i hi=>if_neg<|dI hi,if_pos rfl⟩;refine⟨ay,self,same,λ i o e=>?_,λ i o e=>?_,λ i o e=>?_,λ i j o o' e e' z=>?_,S.ready⟩
 .rcases g i o e with⟨rfl,_⟩|⟨hi,_⟩
  .exact bZ _
  .exact fh hi
 .rcases g i o e with⟨rfl,_⟩|⟨hi,e⟩
  .rw[self];exact lo
  .rw[same i hi];exact S.lo i o e
 .rcases g i o e with⟨rfl,rfl⟩|⟨hi,e⟩
  .rw[self];exact H _ same self
  .rw[same i hi];exact(S.ob i o e).keeps (bW _) same (λ _ _ _ _ e _ _=>e) rfl
 .rcases g i o e with⟨rfl,_⟩|⟨hi,e⟩<;>rcases g j o' e' with⟨rfl,_⟩|⟨B,e'⟩
  .rfl
  .rw[self,same j B]at z;exact absurd z.symm (J j o' e')
  .rw[self,same i hi]at z;exact absurd z (J i o e)
  .rw[same i hi,same j B]at z;exact S.inj i j o o' e e' z
noncomputable def GA:AV->Bool
 |.i v _=>Nat.beq v 0|.t _=>false|_=>true
def Cx(b:Bool):AO->Bool
 |.ns es=>es.all λ p=>GA p.2|.list xs=>xs.all GA|.cell v=>(match v with|some x=>GA x|none=>true)|.ch _ _ _ _=>b|.ca _=>b|_=>false
theorem VR.Oo(h1:Z'.nm=Z.nm)(h2:Z'.bn=Z.bn)(B:Z'.tn=Z.tn)(J:Z'.σ 0=Z.σ 0){x}{v}(hs:GA x=true)(H:VR Z G n h x v):VR Z' G n h x v:=by
 induction H with
 |none=>exact .none|b x=>exact .b x|i v o t=>
  have:=bC hs;clear hs;subst this;rw[<-J];exact .i 0 o t
 |s k t=>rw[<-h1];exact .s k t|r a ha=>exact .r a ha|g a=>exact .g a|bi k=>rw[<-h2];exact .bi k|ty k=>rw[<-B];exact .ty k|t=>exact ff hs
theorem SR.Oo{b:Bool}(h1:Z'.nm=Z.nm)(h2:Z'.bn=Z.bn)(J:Z'.tn=Z.tn)(O:Z'.σ 0=Z.σ 0)(h5:b=true->Z'.ca=Z.ca/\Z'.ch=Z.ch)(hs:st.T.all (Cx b)=true)(S:SR Z w G st h):SR Z' w G st h:=by
 refine⟨S.lt,S.lo,λ i o e=>?_,S.inj,S.ready⟩;have H:=S.ob i o e;have so:=TR.ug hs e;clear e;cases o<;>first|skip|(cases so;done)
 case inst=>exact ff so
 case seg=>exact ff so
 case dict=>exact ff so
 case map=>exact ff so
 case ch f cs c k=>refine cI H λ o fd a1 a2 a3 B=>?_;exact⟨o,fd,a1,a2,by rw[(h5 so).2];exact a3,B.1,B.2.1,by rw[h1];exact B.2.2⟩
 case ca k=>show _/\_;rw[(h5 so).1];exact H
 .rename_i es;refine bA H λ ob dG ep g hd hk hz hm=>?_;refine⟨ob,dG,ep,g,hd,hk,hz,λ k=>?_⟩;have:=hm k;rw[h1];cases q:lk k es with|none=>rw[q]at this;exact this|some x=>
   rw[q]at this;refine a8 this λ v a b=>?_;exact⟨v,a,b.Oo h1 h2 J O<|bV so _<|da q⟩
 .rename_i xs;refine a5 H λ ws m g v l=>?_;refine⟨ws,m,g,⟨v.1,λ j x y e1 e2=>(v.2 j x y e1 e2).Oo h1 h2 J O<|bV so _<|List.mem_of_getElem? e1⟩,l⟩
 .rename_i v;refine cI H λ ob ov g hc hd hm=>?_;refine⟨ob,ov,g,hc,hd,?_⟩;clear H hd;cases v<;>cases ov<;>first|trivial|exact hm.elim|exact VR.Oo h1 h2 J O so hm
end
def Hr:List Stmt:=match fH.tS 167 with|.FunctionDef _ _ b _ _ _ _ _ _ _=>b|_=>[]
def dX:Scope:=match fH.tS 167 with|.FunctionDef _ _ _ _ _ _ s _ _ _=>s|_=>default
def pQ:FuncData:=match tD.data with|.func fd=>fd|_=>default
def cG(i:Nat):Stmt:=match Hr.drop i with|x::_=>x|[]=>.Pass default
noncomputable def Rx:Fn:=⟨[325],[],[321],[],[]⟩
theorem AY:Hr=[cG 0,cG 1,cG 2,cG 3,cG 4,cG 5,cG 6,cG 7]:=by kernel_rfl
theorem DB:tD.data=.func pQ:=by kernel_rfl
theorem LM:pQ.body=.stmts Hr/\pQ.scope=dX/\pQ.code=.ref 1356/\pQ.qualname="law" /\pQ.defaults=.none:=⟨by kernel_rfl,by kernel_rfl,by kernel_rfl,by kernel_rfl,by kernel_rfl⟩
theorem Hq:Ip NM Rx pQ=true:=by kernel_rfl
noncomputable def Gm:IE:=.tup [.list [],.list [],.list [.list [],.list []],.list []]
noncomputable def Gl:TG:=.tup [.b9 321,.l 316,.l 122,.l 264]
def Rp{I:Type}(l:List I):Bool:=Nat.beq (len l) 4
@[elab_as_elim] theorem MN{M:List I->Prop}{l:List I}(h:Rp l=true)(k:∀a b c d,M [a,b,c,d]):M l:=match l with|[a,b,c,d]=>k a b c d|[]=>ff h|[_]=>ff h|[_,_]=>ff h|[_,_,_]=>ff h|_::_::_::_::_::_=>ff h
def Ks(s:Stmt):Bool:=eu (λ ts e _=>one (jP λ es k p=>Rp es&&gV NM dX Gl (.Tuple es k p)) ts&&jP (λ es k p=>aE NM ig ja 60 dX Gm<|.Tuple es k p) e) s
theorem Rw{M:Stmt->Prop}(m:∀a b c d k p es k2 B pos,gV NM dX Gl (.Tuple [a,b,c,d] k p)=true->aE NM ig ja 60 dX Gm (.Tuple es k2 B)=true->M (.Assign [.Tuple [a,b,c,d] k p] (.Tuple es k2 B) pos)):M (cG 0):=by
 have h:Ks (cG 0)=true:=by kernel_rfl
 generalize cG 0=x at h⊢;exact gb h λ ts e pos h=>gJ (aL h) λ t h1=>iY h1 λ l k p h1=>iY (aR h) λ es k2 B h2=>MN (aL h1) (λ a b c d h1=>m a b c d k p es k2 B pos (aR h1) h2) h1
def to:Str:=match cG 1 with|.FunctionDef n _ _ _ _ _ _ _ _ _=>n|_=>default
def lK:Arguments:=match cG 1 with|.FunctionDef _ a _ _ _ _ _ _ _ _=>a|_=>default
def ny:List Stmt:=match cG 1 with|.FunctionDef _ _ b _ _ _ _ _ _ _=>b|_=>[]
def Mp:Scope:=match cG 1 with|.FunctionDef _ _ _ _ _ _ s _ _ _=>s|_=>default
def ZR:Pos:=match cG 1 with|.FunctionDef _ _ _ _ _ _ _ _ _ p=>p|_=>default
theorem Rv:cG 1=.FunctionDef to lK ny [] none [] Mp none to ZR:=by kernel_rfl
theorem Sp:(λ env=>annTrees lK none env)=λ _=>[]:=by kernel_rfl
theorem HH:lK.defaults=[]/\lK.kw_defaults=[]/\Mp.names=[(NM 64,.local),(NM 321,.free)]/\to=NM 294:=⟨by kernel_rfl,by kernel_rfl,by kernel_rfl,by kernel_rfl⟩
abbrev OK(qual:Str)(J:List<|Str×Addr)(doc pm:Value)(c':Addr)(B:Value):FuncData:=fnX to qual lK ny Mp J .none .none doc pm none (.ref c') B
theorem So:(λ qual J doc pm c' B=>Iq NM ig ja 60 wq (OK qual J doc pm c' B) ny)=λ _ _ _ _ _ _=>true:=by kernel_rfl
theorem ZQ:Wz.get 9999=some wq:=by kernel_rfl
theorem qu{x y}{a:Addr}(h:sc.names=[(x,.local),(y,.free)])(e:env.cells.lookup y=some a):closureFor sc env=pure [(y,a)]:=by
 unfold closureFor;rw[h];simp only[List.forIn_cons,List.forIn_nil];simp[cellOf,e]
noncomputable def On:IE:=.list ([0,0,0,0,2,4,3,0,0].map λ i:Int=>.c<|.i 0 i)
def L3(k:Int)(c:Option PySem.Expr):Bool:=qS (isConstant λ c _ _=>ua NM (.i 0 k) c) c
@[elab_as_elim] theorem Tz{M:Option PySem.Expr->Prop}{i:Int}{c:Option PySem.Expr}(h:L3 i c=true)(k:∀a b,M<|some<|.Constant (.int i) a b):M c:=by
 refine t4 h λ c h=>gA h λ c a b h=>?_;cases c<;>try exact ff h
 rename_i j;rw[<-(PySem.W.Z.eqB_iff i j).mp (aR (show(Nat.beq 0 0&&wf i j)=true from h))];exact k a b
def Kq(s:Stmt):Bool:=eu (λ ts e _=>one (pi λ y p1=>y==NM 326&&gV NM dX (.l 326) (.Name y p1)) ts&&cT (λ v sl _=>oB (λ a o l _=>o==.Add&&cT (λ z s1 _=>
 pi (λ n p=>aE NM ig ja 60 dX (.l 325)<|.Name n p) z&&sn (λ lo hi st _=>Hv lo&&L3 9 hi&&Hv st) s1) a&&aE NM ig ja 60 dX On l) v&&
 sn (λ lo hi st _=>Hv lo&&Hv hi&&qS (iz λ o c _=>o==.USub&&L3 1 (some c)) st) sl) e) s
theorem Ru{M:Stmt->Prop}(m:∀p1 z p2 k3 p3 p4 p5 l p6 k7 p7 p8 p9 O J,gV NM dX (.l 326) (.Name (NM 326) p1)=true->aE NM ig ja 60 dX (.l 325) (.Name z p2)=true->aE NM ig ja 60 dX On l=true->
  M (.Assign [.Name (NM 326) p1] (.Subscript (.BinOp (.Subscript (.Name z p2) (.Slice none (some<|.Constant (.int 9) k3 p3) none p4) p5) .Add l p6) (.Slice none none (some<|.UnaryOp .USub (.Constant (.int 1) k7 p7) p8) p9) O) J)):M (cG 2):=by
 have h:Kq (cG 2)=true:=by kernel_rfl
 generalize cG 2=x at h⊢;refine gb h λ ts e J h=>gJ (aL h) λ t h1=>cy h1 λ y p1 h1=>cU (aR h) λ v sl O h=>t7 (aL h) λ a o l p6 h2=>i_ h2 λ h2 B h4=>cU B λ z s1 p5 B=>cy (aL B) λ z p2 h5=>
  oJ (aR B) λ lo hi st p4 B=>FX (aL<|aL B) (Tz (aR<|aL B) λ k3 p3=>FX (aR B)<|oJ (aR h) λ lo hi st p9 h=>FX (aL<|aL h)<|FX (aR<|aL h)<|t4 (aR h) λ st h=>fo h λ o' c p8 h=>?_)
 rw[bq<|aL h,bq h2];have k:=aR h1;rw[bq<|aL h1]at k⊢;exact Tz (M:=λ c=>M<|.Assign _ (.Subscript _ (.Slice none none (some<|.UnaryOp .USub (c.getD default) p8) p9) O) J) (aR h) λ k7 p7=>m p1 z p2 k3 p3 p4 p5 l p6 k7 p7 p8 p9 O J k h5 h4
theorem X9:dX.names.lookup (NM 294)=some .local:=by kernel_rfl
def GN:List IS:=match OZ.body with|_::_::_::a::b::_=>[a,b]|_=>[]
theorem LO:aV (dn NM ig ja 60 dX) GN [cG 3,cG 4]=true:=by kernel_rfl
theorem Rt:dn NM ig ja (59+1) dX (.BV (.l 328) rX<|m_++[mu]) (cG 5)=true:=by kernel_rfl
theorem LN:aV (dn NM ig ja 60 dX) ML [cG 6,cG 7]=true:=by kernel_rfl
def gG(us:List Value)(u:Int):Nat->Int:=sg 21 22 26 0 0 0 0 us.length 0 0 0 u 0
def gU(us:List Value):Nat->List Value:=ta [] [] [] [] [] [] us
theorem KJ{d:Nat}{u:Int}(hd:d≠0)(h:us.length<=100):iH (gG us u) (gU us) (jV d<|u.emod d):=
 have z:([]:List Value).length<=10000:=dp _
 I5 (by decide) (by decide) (by decide) (by decide) (by decide) (by decide) (by decide) (by decide) (Lw<|ae h (by decide)) (by decide) (by decide) hd rfl (aC z<|aC z<|aC z<|aC z<|aC z<|aC z<|aC (ae h (by decide)) aZ)
def Z0:Sy:=bD (gG [] 0) (gU []) (λ _=>default)<|λ _ _ _=>False
def X0:Env:=bI<|jV 5 0
theorem US{σ:Nat->Int}{X}:kV (bD σ τ (λ _=>default)<|λ _ _ _=>False) X ig ja:=⟨λ f k fd h=>h.elim⟩
theorem ev0(w:World):FI Z0 w X0 ig 250 (ev X0 250):=qg (KJ (by decide)<|dp _) US w 250
theorem Lm{h:Heap}(x:fj h vC)(k:∀b o,b≠1352->h.get? b=some o->h'.get? b=some o):bh h h':=λ b o ws m hb hc hd=>k b o (λ z=>by
 clear hd;subst z;rw[x (1352,_)<|.head _]at hb;obtain rfl:=sI hb;cases hc) hb
theorem on.but{w}{h:Heap}(O:on w h Rs)(k:∀b o,b≠1352->h.get? b=some o->h'.get? b=some o)(tk:bh h h'):on w h' Rs:=by
 refine⟨λ P B=>⟨(O.ok P B).lo,λ q J=>?_⟩,O.nd,Ready.but O.ready k⟩;have H:=(O.ok P B).ob q J;refine xE H.live λ o e=>?_;exact H.keeps (a9 _) (λ _ _=>rfl) tk<|(k _ _ (λ z=>absurd ((O.ok P B).lo q J) (by rw[z];exactλ h=>nomatch h)) e).trans e.symm
theorem EV{w}{h}(x:Ready w h):CodeHd h 1356 1352:=by
 have e:=(iy x.pR (a:=1356) (by kernel_rfl)).trans<|congrArg some (by kernel_rfl:_=(⟨.type "code",none,.fields [.str "law" 2280,.str "law" 2281,.str "/claim/cut.py" 2282,.int 986 0,.int 1 0,.int 0 0,.int 0 0,.int 3 0,.ref 1351,.bool true,.int 181 0,.ref 1352,.none,.ref 1353,.ref 1354,.ref 1355,.int 2297 0,.int 986 0,.str "/claim/cut.py" 2298].toArray,[].toArray⟩:Obj));exact⟨_,_,_,_,_,_,_,_,_,e,rfl,rfl,rfl,rfl,rfl,rfl,rfl,rfl,by exactλ h=>nomatch h⟩
theorem UZ{w}{h:Heap}(x:Ready w h):h.BuiltinsAt (h.nsMap 3) 1352:=
 ⟨4,_,by rw[d7 x.zW];exact Jj _,by decide,by decide,by decide,x.at4,rfl,rfl,rfl⟩
theorem mU{G:Nat->Addr}{a:Addr}(ap:Apart G st Rs)(lt:∀i o,st.T.get i=some o->i<st.nx)(same:∀i,i<st.nx->ay i=G i)(self:ay st.nx=a)(B:a∉dj Rs):Apart ay (a_ ao st) Rs:=λ b hb i o e=>by
 have e:(st.T.dL ao st.nx).get i=some o:=e;rw[TR.bu]at e;by_cases q:i=st.nx
 .rw[q,self];exactλ z=>B (z▸hb)
 .rw[if_neg q]at e;rw[same i<|lt i o e];exact ap b hb i o e
structure pk(w:World)(ca:Nat->Obj)(ch:Nat->Nat->FuncData->Prop):Prop where
 rg:∀n k,n<10->k<10->ca (1+10*n+k)=CK n k
 C:∀σ τ cr,kV (bD σ τ ca ch) (bI cr) ig ja
section
variable{w:World}{G:Nat->Addr}{s:Shared}{L cl:Nat}{cs:Cs}{Q:Flow->Shared->Prop}{E:Value->Shared->Prop}
theorem MY(Bc:st.T.all (Cx false)=true)(hc:lk 321 cs=some cl)(kZ:cl<st.nx)(e:lX L 294 (.r<|st.nx+1) (a_ (.ch 9999 [(321,cl)] st.nx 0)<|a_ (.ca 0) st)=some ab)(N:a7 Z0 G st.nx L cs dX env)(qa:env.code=.ref 1356)(S:SR Z0 w G st s.heap)(x:fj s.heap vC)(O:on w s.heap Rs)(ap:Apart G st Rs)(q:∀ca ch ay s',pk w ca ch->SR (bD (gG [] 0) (gU []) ca ch) w ay ab s'.heap->(∀i,i<st.nx->ay i=G i)->on w s'.heap Rs->Apart ay ab Rs->(∃h t,s'={s with heap:=h,toks:=t})->(∀b o,b<1358->b≠1352->s.heap.get? b=some o->s'.heap.get? b=some o)->
   (∃ps,s'.heap.get? 1352=some (tabObj ps))->Q .next s'):aD w A (exec (cG 1) env) Q E s:=by
 refine iI HH λ hd hk hn hm=>?_;rw[Rv];refine nestDef_K hd hk (congrFun Sp env) ?_;have R:=S.ready;refine xA (N.cells 321 cl hc) λ _ h0=>?_;have n1:s.heap.Ns mainGlobals (s.heap.nsMap 3):=Heap.Ns.of_isNs<|(dU (a:=mainGlobals) R.zW).trans<|nt _;refine makeFunction_K (mg:=s.heap.nsMap 3) (qu hn h0) N.globals n1 qa (EV R) (x (1352,_)<|.head _) trivial rfl (by exactλ h=>nomatch h) (UZ R) λ c' J doc h' tk hx Wo wb Zn c0=>?_;refine fU Zn λ h3 oc vs t e2 Bt fy=>xA fy λ Sj hv=>?_;clear hc h0;cases e2;generalize hq:qualnameIn env to to=qual at*;generalize h4:(s.heap.nsMap 3 "__name__").getD .none=pm at*;have kk:∀b o,b≠1352->s.heap.get? b=some o->(h'.push<|fnMade to qual lK ny Mp [(NM 321,G cl)] doc pm c' J).get? b=some o:=λ b o hb eb=>Heap.get?_push_of_some _<|hx b o hb eb;have W_:=Lm x kk;have ei:1358<=s.heap.objs.size:=cm R;have nl:∀b,s.heap.objs.size<=b->s.heap.get? b=none:=λ b hb=>Heap.get?_none_of_le hb;have S1:=S.but kk W_;have Z1:SR (bD (gG [] 0) (gU []) (λ k=>if k=0 then oc else CK ((k-1)/10) ((k-1) %10))<|λ f k fd=>f=9999/\k=0/\fd=OK qual [(NM 321,G cl)] doc pm c' J) w G st (h'.push<|fnMade to qual lK ny Mp [(NM 321,G cl)] doc pm c' J):=
  SR.Oo (Z:=Z0) (b:=false) rfl rfl rfl rfl (λ h=>nomatch h) Bc S1
 have D:pk w (λ k=>if k=0 then oc else CK ((k-1)/10) ((k-1) %10)) (λ f k fd=>f=9999/\k=0/\fd=OK qual [(NM 321,G cl)] doc pm c' J):=by
  refine⟨λ n k hn hk=>?_,λ σ τ cr=>⟨λ f k fd h=>?_⟩⟩
  .show(if 1+10*n+k=0 then oc else CK ((1+10*n+k-1)/10) ((1+10*n+k-1) %10))=_;rw[Nat.add_assoc,if_neg<|Nat.ne_of_gt<|Nat.le_add_right 1 _,Nat.add_sub_cancel_left,Nat.mul_add_div (by decide),Nat.mul_add_mod,Nat.div_eq_of_lt hk,Nat.mod_eq_of_lt hk,Nat.add_zero]
  .refine ib h λ z0 z1 z2=>?_;clear h;subst z0;subst z1;subst z2;exact(⟨wq,ny,vs,t,ZQ,rfl,congrFun (congrFun (congrFun (congrFun (congrFun (congrFun So _) _) _) _) _) _,rfl,rfl,Sj,hv⟩)
 have f0:(λ k=>if k=0 then oc else CK ((k-1)/10) ((k-1) %10)) 0=oc:=rfl;have zA:∀ch:Nat->Nat->FuncData->Prop,ch=(λ f k fd=>f=9999/\k=0/\fd=OK qual [(NM 321,G cl)] doc pm c' J)->ch 9999 0 (OK qual [(NM 321,G cl)] doc pm c' J):=λ _ e=>by rw[e];exact⟨rfl,rfl,rfl⟩
 generalize (λ k=>if k=0 then oc else CK ((k-1)/10) ((k-1) %10))=ca at Z1 D f0;generalize Ba:(λ f k fd=>f=9999/\k=0/\fd=OK qual [(NM 321,G cl)] doc pm c' J)=ch at Z1 D;have zA:=zA ch Ba.symm;have live:∀i o,st.T.get i=some o->G i<s.heap.objs.size:=λ i o B=>by refine xE ((S.ob i o B).live) λ ob eb=>?_;exact dJ eb
 have C_:∀b,s.heap.objs.size<=b->b∉dj Rs:=λ b hb hm=>by
  refine uI (fD.mp hm) λ P hP p hp z=>?_;refine xE (((O.ok P hP).ob p hp).live) λ o eo=>?_;rw[z]at eo;exact absurd (dJ eo) (fe hb)
 have hsz:=d4<|eh Wo wb;refine bc (Z1.adopt (a:=c') (ao:=.ca 0) (λ i o B=>dI<|ba (live i o B) Wo) (ae ei Wo) λ ay _ _=>
  ⟨(Heap.get?_push_of_some _ Bt).trans<|congrArg some f0.symm,λ ws m _ hd=>by have hd:(ca 0).data=_:=hd;rw[f0,Sj]at hd;cases hd⟩) λ B0 e1 s1 T1=>?_
 have a1:=mU (ao:=.ca 0) ap S.lt s1 e1<|C_ c' Wo;refine bc (T1.adopt (a:=h'.objs.size) (ao:=.ch 9999 [(321,cl)] st.nx 0) (λ i o B=>by
   have B:(st.T.dL (.ca 0) st.nx).get i=some o:=B;rw[TR.bu]at B;by_cases z:i=st.nx
   .rw[z,e1];exact dI wb
   .rw[if_neg z]at B;rw[s1 i<|S.lt i o B];exact dI<|ba (live i o B) hsz) (ae ei hsz) λ ay sm _=>
  ⟨_,_,Heap.get?_push_size _ rfl,rfl,zA,(by show st.nx<st.nx+1+1;exact bW _),by show Value.ref c'=_;rw[sm st.nx<|Nat.lt_succ_self _,e1],λ y i hy=>by
   have:=da hy;simp only[List.mem_cons,Prod.mk.injEq,List.not_mem_nil,or_false]at this;refine xA this λ z0 z1=>?_;clear e kk W_ S1 Ba Z1 zA T1 hy this;clear zA;subst z0;subst z1;refine⟨(by show i<st.nx+1+1;grind),?_⟩;rw[sm i<|Nat.lt_succ_of_lt kZ,s1 i kZ];show List.lookup (NM 321) [(NM 321,G i)]=_;rfl⟩) λ Ki e2 s2 T2=>?_
 have a2:=mU (ao:=.ch 9999 [(321,cl)] st.nx 0) a1 T1.lt s2 e2<|C_ _ hsz;have sm:∀i,i<st.nx->Ki i=G i:=λ i hi=>(s2 i<|fh hi).trans<|s1 i hi;have N2:a7 (bD (gG [] 0) (gU []) ca ch) Ki (st.nx+1+1) L cs dX env:=N.Je rfl (sm L N.lt) (λ y z hz=>⟨sm z (N.cells y z hz).1,fh<|fh (N.cells y z hz).1⟩)<|fh<|fh N.lt;refine kN (s:={s with heap:=h'.push<|fnMade to qual lK ny Mp [(NM 321,G cl)] doc pm c' J,toks:=tk}) (Z:=bD (gG [] 0) (gU []) ca ch) jC e hm.symm (by rw[hm];exact X9) N2 T2 (by rw[<-e2];exact .r _<|bZ _) λ s' a=>?_;have O1:on w (h'.push<|fnMade to qual lK ny Mp [(NM 321,G cl)] doc pm c' J) Rs:=O.but kk W_;refine xA (cO T2 a O1 a2) λ R2 p2=>?_;have am:=a.sm T2;refine xA am λ z0 hl=>?_;obtain⟨h2,t2,e3⟩:=z0;refine q ca ch Ki s' D a.sr sm R2 p2 ⟨h2,t2,e3⟩ (λ b o hb hn eb=>hl b o hb<|kk b o hn eb) ⟨_,hl 1352 _ (by simp)<|Heap.get?_push_of_some _ c0⟩
end
variable{hi:Option Int}
theorem CX{items:Array Value}{lo st:Option Int}{v}(h:v∈(slicePick items lo hi st).toList):v∈items.toList:=by
 unfold slicePick at h;rw[List.toList_toArray,List.mem_filterMap]at h;refine a8 h λ i _ e=>?_;rw[<-Array.getElem?_toList]at e;exact List.mem_of_getElem? e
theorem tQ:∀{us:List Value},(∀v∈us,∃i,ia i v)->∃U,F2 ia U us
 |[],_=>⟨[],.nil⟩|v::us,h=>by
  refine xE (h v<|.head _) λ i hi=>?_;refine xE (tQ λ v hv=>h v<|.tail _ hv) λ U B=>?_;exact⟨i::U,.cons hi B⟩
theorem IL(h:F2 ia U us):∀v∈us,∃i,ia i v:=by
 induction h with
 |nil=>intro v hv;cases hv
 |cons a _ ih=>
  intro v hv;rcases bG hv with rfl|hv
  .exact⟨_,a⟩
  .exact ih v hv
noncomputable def rj:List AV:=[.i 0 0,.i 0 0,.i 0 0,.i 0 0,.i 0 2,.i 0 4,.i 0 3,.i 0 0,.i 0 0]
section
variable{ca:Nat->Obj}{ch:Nat->Nat->FuncData->Prop}{w:World}{G:Nat->Addr}{s:Shared}{KH:St}{L i:Nat}{cs:Cs}{Q:Flow->Shared->Prop}{E:Value->Shared->Prop}
theorem vq{Z}(S:SR Z w G st s.heap)(o:Obj)(t:Tok):cH Z w G st s G st {s with heap:=s.heap.push o,toks:=t}:=by
 refine xA (S.more<|bP s.heap o) λ B K=>?_;exact⟨⟨_,_,rfl⟩,B,K⟩
theorem SR.fresh{Z}(S:SR Z w G st s.heap):∀i o,st.T.get i=some o->G i≠s.heap.objs.size:=λ i o e=>by
 refine xE ((S.ob i o e).live) λ ob B=>?_;exact dI<|dJ B
theorem on.fresh(O:on w s.heap Rs):s.heap.objs.size∉dj Rs:=λ hm=>by
 refine uI (fD.mp hm) λ P J p hp z=>?_;refine xE (((O.ok P J).ob p hp).live) λ o B=>?_;rw[z]at B;exact absurd (dJ B)<|Nat.lt_irrefl _
theorem Km{u:Int}{n:Nat}{h}:VR (bD (gG us u) (gU us) ca ch) G n h (.i 1802 0) (.int u tu):=by
 have e:(bD (gG us u) (gU us) ca ch).σ 1802+0=u:=by show u+0=u;exact Int.add_zero _
 have H:=VR.i (Z:=bD (gG us u) (gU us) ca ch) (G:=G) (n:=n) (h:=h) 1802 0 tu;rwa [e]at H
theorem Ko(D:pk w ca ch)(e1:(ev X0 250).E L cs (.l 325) st=some (.r i,st))(e2:(ev X0 250).E L cs On st=some (.r j,KH))(e3:KH.T.get j=some (.list rj))(Bc:KH.T.all (Cx true)=true)(e4:lX L 326 (.r KH.nx) (a_ (.seg [] 7 907 [.i 1802 0]) KH)=some st2)(N:a7 (bD (gG [] 0) (gU []) ca ch) G st.nx L cs dX env)(r:bt 250 A)(S:SR (bD (gG [] 0) (gU []) ca ch) w G st s.heap)(O:on w s.heap Rs)(ap:Apart G st Rs){m:Nat}(g:s.heap.get? (G i)=some (listOf ws.toArray m))(hi:G i∈dj Rs)(hw:∀v∈ws,∃i,ia i v)(hl:ws.length<=63)(q:∀ay s' us u U,F2 ia U us->8<=us.length->us.length<=100->SR (bD (gG us u) (gU us) ca ch) w ay st2 s'.heap->(∀i,i<st.nx->ay i=G i)->on w s'.heap Rs->Apart ay st2 Rs->Sm s s'->Q .next s'):aD w A (exec (cG 2) env) Q E s:=by
 refine Ru (M:=λ x=>wpAny _ _ (exec x env) _ _ _) λ p1 z p2 k3 p3 p4 p5 l p6 k7 p7 p8 p9 Qj Qi h0 h1 h2=>?_;have ok:=qg (ca:=ca) (ch:=ch) (KJ (d:=5) (us:=[]) (u:=0) (by decide)<|dp _) (D.C _ _ _) w 250;have one:assignEach [.Name (NM 326) p1] env=[(false,assign (.Name (NM 326) p1) env)]:=rfl;refine wpAny_Assign_stores ?_ rfl<|(ord _).VD _ _ _;rw[one];refine Subscript_<|wpAny_BinOp<|wpAny_Subscript_list_slice<|ok.E e1 h1 r N S λ B0 v1 s1 a1 V1=>?_;cases V1;rename_i Zy;have IW:B0 i=G i:=a1.kp.same i Zy;have g1:s1.heap.get? (B0 i)=some (listOf ws.toArray m):=by rw[IW];exact a1.kp.fr _ _ g (ap _ hi)
 rw[evalPart_none];refine ax ?_;rw[evalPart_some];refine wpAny_Constant_int ?_;refine(⟨B0 i,ws.toArray,none,some 9,rfl,⟨_,g1,rfl,m,rfl⟩,(by simp[sizeLine_eq];exact ae (by assumption) (by simp)),.none,.int 9 _,?_⟩);have b1:=a1.kj S<|s1.toks+1;have b2:=b1.trans S<|vq b1.sr {cls:=.type "slice",data:=.fields #[.none,.int 9 s1.toks,.none]}<|s1.toks+1;have b3:=b2.trans S<|vq b2.sr {cls:=.type "list",data:=.seq<|slicePick ws.toArray none (some 9) none}<|s1.toks+1;have h3:(slicePick ws.toArray none (some 9) none).size<=63:=ae (slicePick_size_le _ _ _ _) (by assumption);have hk:∀v∈(slicePick ws.toArray none (some 9) none).toList,∃i,ia i v:=λ v hv=>hw v (by simpa using CX hv);have gB:∀o:Obj,((s1.heap.push o).push {cls:=.type "list",data:=.seq<|slicePick ws.toArray none (some 9) none}).get? (s1.heap.objs.size+1)=some {cls:=.type "list",data:=.seq<|slicePick ws.toArray none (some 9) none}:=λ o=>by rw[show s1.heap.objs.size+1=(s1.heap.push o).objs.size from(Heap.size_push ..).symm];exact Heap.get?_push_size _ rfl
 have fB:∀k o,st.T.get k=some o->B0 k≠s1.heap.objs.size+1:=λ k o ek=>by have:=b2.sr.fresh k o ek;rwa [Heap.size_push]at this
 generalize slicePick ws.toArray none (some 9) none=pick at*;refine ok.E e2 h2 r (N.kp b3.kp) b3.sr λ Ki v2 s2 a2 V2=>?_;cases V2;obtain⟨B,m9,g9,V9,l9⟩:=a2.sr.ob j _ e3;have g2:=a2.kp.fr _ _ (gB _) fB;have b4:=b3.trans S a2;have n9:B.length=9:=V9.1.symm;have i9:∀v∈B,∃i,ia i v:=λ v hv=>by
  obtain⟨k,J,ek⟩:=List.getElem_of_mem hv;have oG:k<rj.length:=by rw[V9.1];exact J
  have H:=V9.2 k rj[k] v (List.getElem?_eq_getElem oG) ((List.getElem?_eq_getElem J).trans<|congrArg some ek);have key:∀x∈rj,∃o,x=.i 0 o:=λ x hx=>by
   simp only[rj,List.mem_cons,List.not_mem_nil,or_false]at hx;rcases hx with rfl|rfl|rfl|rfl|rfl|rfl|rfl|rfl|rfl<;>exact⟨_,rfl⟩
  obtain⟨o,eo⟩:=key _<|List.getElem_mem oG;rw[eo]at H;cases H;exact⟨_,_,rfl⟩
 refine P.add_list g2 g9 ?_ (by rw[sizeLine_eq];simp[n9];exact ae (by assumption) (by simp));have b5:=b4.trans S<|vq b4.sr {cls:=.type "list",data:=.seq<|pick++B.toArray} s2.toks;have gC:(s2.heap.push {cls:=.type "list",data:=.seq<|pick++B.toArray}).get? s2.heap.objs.size=some {cls:=.type "list",data:=.seq<|pick++B.toArray}:=Heap.get?_push_size _ rfl;have hit:∀v∈(pick++B.toArray).toList,∃i,ia i v:=λ v hv=>by
  rw[Array.toList_append]at hv;rcases dc hv with hv|hv
  .exact hk v hv
  .exact i9 v (by simpa using hv)
 have Zx:(pick++B.toArray).toList.length=pick.size+9:=by simp[n9]
 generalize pick++B.toArray=items at*;refine wpAny_Slice ?_;rw[evalPart_none,evalPart_some];refine ax<|ax<|wpAny_UnaryOp<|wpAny_Constant_int<|P.neg_int ?_;have J4:(s2.heap.push {cls:=.type "list",data:=.seq items}).IsList s2.heap.objs.size items:=⟨_,gC,rfl,0,rfl⟩;refine tail_any (J4.push _).typeIs list_getitem_lookup (wpAny_getItem_list_slice (J4.push _) (Heap.IsSliceOf.new ..) .none .none (.int (-1) _) (by exactλ h=>nomatch h) ?_ (by rw[sizeLine_eq,<-Array.length_toList,Zx];lia)) rfl;rw[krv_pick];obtain⟨us,v,ev⟩:∃us v,items.toList.reverse=us++[v]:=by
  rcases List.eq_nil_or_concat items.toList.reverse with z|⟨us,v,z⟩
  .have:items.toList.reverse.length=0:=by rw[z];rfl
   rw[List.length_reverse,Zx]at this;lia
  .exact⟨us,v,by rw[z,List.concat_eq_append]⟩
 have len:us.length+1=pick.size+9:=by
  have:=congrArg List.length ev;rw[List.length_reverse,Zx]at this;rw[this];simp
 have RR:∀x∈us++[v],∃i,ia i x:=λ x hx=>hit x (by rw[<-ev]at hx;exact List.mem_reverse.mp hx);obtain⟨u,tu,rfl⟩:=RR v (by exact aF m0);obtain⟨U,hU⟩:=tQ λ x hx=>RR x<|aU hx;rw[ev];have b6:=b5.trans S<|vq b5.sr {cls:=.type "slice",data:=.fields #[.none,.none,.int (-1)<|s2.toks+1]}<|s2.toks+1+1;have b7:=b6.trans S<|vq b6.sr {cls:=.type "list",data:=.seq (us++[Value.int u tu]).toArray}<|s2.toks+1+1;have T2:SR (bD (gG us u) (gU us) ca ch) w Ki KH _:=SR.Oo (Z:=bD (gG [] 0) (gU []) ca ch) (b:=true) rfl rfl rfl rfl (λ _=>⟨rfl,rfl⟩) Bc b7.sr;obtain⟨WT,f1,f2,T3⟩:=T2.adopt (ao:=.seg [] 7 907 [.i 1802 0]) b6.sr.fresh (cm b6.sr.ready) λ ay _ _=>⟨[],[.int u tu],0,Heap.get?_push_size _ rfl,.nil,.cons Km .nil,rfl,by exact d5 _⟩;obtain⟨O6,p6⟩:=cO S b6 O ap;obtain⟨O7,p7⟩:=cO S b7 O ap;have p3:=mU (ao:=.seg [] 7 907 [.i 1802 0]) p7 b7.sr.lt f2 f1 O6.fresh;have nx:=b7.kp.nx;have sm:∀k,k<st.nx->WT k=G k:=λ k J=>(f2 k<|ba J nx).trans<|b7.kp.same k J;have N3:a7 (bD (gG us u) (gU us) ca ch) WT (KH.nx+1) L cs dX env:=N.Je rfl (sm L N.lt) (λ y k J=>⟨sm k (N.cells y k J).1,fh<|ba (N.cells y k J).1 nx⟩)<|fh<|ba N.lt nx;refine dH (Z:=bD (gG us u) (gU us) ca ch) (t:=.l 326) jC e4 h0 r.handled N3 T3 (by rw[<-f1];exact .r _<|bZ _) λ s' a=>?_;obtain⟨O8,p8⟩:=cO T3 a O7 p3;exact q WT s' us u U hU (by lia) (by lia) a.sr sm O8 p8<|(b7.sm S).trans<|a.sm T3
end
noncomputable def Gy(o:Option St):St:=match o with|some s=>s|none=>⟨.nil,0⟩
noncomputable def Pj(o:Option<|AV×St):AV×St:=match o with|some p=>p|none=>(.none,⟨.nil,0⟩)
noncomputable def t_:Cs:=[(321,2)]
def VG:St:=(fw [321] (a_ (.ns []) ⟨.nil,1⟩) []).2
def sA:St:=Gy<|cL 1 [321] t_ [(325,.r 0)] VG
def pB:AV×St:=Pj<|(ev X0 250).E 1 t_ Gm sA
def sB:St:=Gy<|jq 1 t_ Gl pB.1 pB.2
def sC:St:=Gy<|lX 1 294 (.r<|sB.nx+1)<|a_ (.ch 9999 [(321,2)] sB.nx 0)<|a_ (.ca 0) sB
def KS:St:=(Pj<|(ev X0 250).E 1 t_ On sC).2
def sD:St:=Gy<|lX 1 326 (.r KS.nx)<|a_ (.seg [] 7 907 [.i 1802 0]) KS
theorem eA0:fw [321] (a_ (.ns []) ⟨.nil,1⟩) []=(t_,VG):=by kernel_rfl
theorem eA:cL 1 [321] t_ [(325,.r 0)] VG=some sA:=by kernel_rfl
theorem eB0:(ev X0 250).E 1 t_ Gm sA=some (pB.1,pB.2):=by kernel_rfl
theorem eB:jq 1 t_ Gl pB.1 pB.2=some sB:=by kernel_rfl
theorem eC:lX 1 294 (.r<|sB.nx+1) (a_ (.ch 9999 [(321,2)] sB.nx 0)<|a_ (.ca 0) sB)=some sC:=by kernel_rfl
theorem eC1:sB.T.all (Cx false)=true/\Nat.blt 2 sB.nx=true:=⟨by kernel_rfl,by kernel_rfl⟩
theorem eD0:(ev X0 250).E 1 t_ (.l 325) sC=some (.r 0,sC):=by kernel_rfl
theorem eD1:(ev X0 250).E 1 t_ On sC=some (.r 11,KS):=by kernel_rfl
theorem eD2:KS.T.get 11=some (.list rj)/\KS.T.all (Cx true)=true:=⟨by kernel_rfl,by kernel_rfl⟩
theorem eD:lX 1 326 (.r KS.nx) (a_ (.seg [] 7 907 [.i 1802 0]) KS)=some sD:=by kernel_rfl
def JN(r:Int):Option St:=bd ((ev (bI<|jV 2 r) 250).S 1 t_ GN sD) λ p=>match p.1 with|.d6=>some p.2|_=>none
noncomputable def aa_:Nat->Nat->Nat->List (Nat×Nat):=λ n=>Nat.rec (λ _ _=>[]) (λ _ ih k m=>(k,Nat.mod m 1024)::ih (Nat.succ k) (Nat.div m 1024)) n
def M3:List (Nat×Nat):=aa_ 150 0 16074753556619552796625538717543286819209236557843980105657670315201230333860932090432678112389007392905396330447226538123615423644498138505866885160308125427955738860481360269239936927046398482315412711566760164777538726306067956961792299951446636366836114024024050799431552228032013081203262973965613741636473890411169970052075230838659306847500058108560097577623312041698834832519947449048065667817324346279593850622937141933669252581054690736736257
def M2:List (Nat×Nat):=M3.map λ p=>(p.1,match Nat.ble 450 p.2 with|true=>p.2-7|false=>p.2)
noncomputable def dA(o:AO)(f:List (AV×AV)->Bool):Bool:=match o with|.dict ds=>f ds|_=>false
noncomputable def hdA(xs:List AV)(f:AV->Bool):Bool:=match xs with|x::_=>f x|[]=>false
def lH(o:Option AO)(f:AV->Bool):Bool:=kO o λ o=>dA o λ ds=>Nat.blt 0 (len ds)&&Nat.ble (len ds) 10&&ds.all λ p=>f p.1
def RP(o:Option AO):Bool:=lH o λ a=>aI a λ v o=>Nat.beq v 0&&wf o 3
def RO(o:Option AO):Bool:=lH o λ a=>aT a λ xs=>hdA xs λ x=>aS x<|Nat.beq 286
def Yt:List (Nat×AO):=iR.map λ i=>(i,match i with|7=>.seg [] 7 907 []|_=>.list [])
def W3(c:Nat):List Nat:=(fO c++dw).map (·.1)++[44,56]++iR
def wB(c:Nat)(M:List<|Nat×Nat)(T:TR AO):Bool:=fK T M (FK [(0,0,0),(908,0,2)]) uz (fO c++dw)&&fK T M Ov Ou Yt&&RO (T.get<|pr M 44)&&RP (T.get<|pr M 56)&&jj ((W3 c).map<|pr M)&&
 (Nat.beq (pr M 0) 1&&Nat.beq (pr M 1) 2&&Nat.beq (pr M 2) 0)
def H5(r:Int)(c:Nat)(M:List<|Nat×Nat):Bool:=match JN r with|some s=>wB c M s.T|none=>false
theorem Tt:H5 0 3 M3=true:=by kernel_rfl
theorem Tu:H5 1 2 M2=true:=by kernel_rfl
section
variable{ca:Nat->Obj}{ch:Nat->Nat->FuncData->Prop}{w:World}{G:Nat->Addr}{h:Heap}{M:List<|Nat×Nat}{u:Int}
theorem F2.left{l:List I}{k:List β}(x:F2 R l k){a:I}(ha:a∈l):∃b∈k,R a b:=by
 induction x with
 |nil=>cases ha
 |cons r _ ih=>
  rcases bG ha with rfl|ha
  .exact⟨_,.head _,r⟩
  .refine a8 (ih ha) λ b hb B=>?_;exact⟨b,.tail _ hb,B⟩
theorem F2.right{l:List I}{k:List β}(x:F2 R l k){b:β}(hb:b∈k):∃a∈l,R a b:=by
 induction x with
 |nil=>cases hb
 |cons r _ ih=>
  rcases bG hb with rfl|hb
  .exact⟨_,.head _,r⟩
  .refine a8 (ih hb) λ a ha B=>?_;exact⟨a,.tail _ ha,B⟩
theorem vG{K:Type}[DecidableEq K]{R:AV->K->Prop}{Z}{n:Nat}{ds}{kvs}{i}(f:mh R Z G n h ds kvs)(no:∀q∈ds,∀k,R q.1 k->k≠i):valueAt kvs i=none:=by
 unfold valueAt;rw[List.find?_eq_none.mpr λ kv B=>?_]
 .rfl
 .refine bc (F2.right f B) λ q J r _=>?_;simpa using no q J _ r
theorem Hc{Z:Sy}{n:Nat}{a:Addr}{ds:List<|AV×AV}{es}(H:OR Z w G n h a<|.dict ds)(h1:ds≠[])(h2:∀q∈ds,q.1=.i 0 3)(h3:Z.σ 0=0)(J:∀p∈es,p.2=none/\∃o,p.1=.i 0 o/\o≠3)(h4:Z'.σ 0=0)(hl:ds.length+bY es<=1000):OR Z' w ay n' h a (.map es):=by
 refine xE (List.exists_mem_of_ne_nil ds h1) λ q B=>?_;have RZ:=h2 q B;rcases H with⟨kvs,D,f⟩|⟨kvs,D,f⟩|⟨xs,D,f⟩
 .refine MR.int kvs D (λ p hp=>?_) (by have:=F2.length f;lia);refine xA (J p hp) λ e1 fy=>a8 fy λ o e2 e3=>?_;refine⟨Z'.σ 0+o,⟨0,o,e2,rfl⟩,?_⟩;rw[e1,vG f λ q B k J=>?_]
  .trivial
  .refine b8 J λ v o' r1 r2=>?_;rw[h2 q B]at r1;cases r1;rw[r2,h3,h4];lia
 .refine bc (F2.left f B) λ _ _ O _=>?_;obtain⟨j,r,_⟩:=O;rw[RZ]at r;cases r
 .refine bc (F2.left f B) λ _ _ O _=>?_;obtain⟨j,js,r,_⟩:=O;rw[RZ]at r;cases r
theorem Hb{Z:Sy}{n:Nat}{a:Addr}{ds:List<|AV×AV}{es}(α:bB Z)(hn:Z'.nm=Z.nm)(H:OR Z w G n h a<|.dict ds)(h1:ds≠[])(h2:∀q∈ds,∃l,q.1=.t (.s 286::l))(O:∀p∈es,p.2=none/\∃(j:Nat)(J:List Nat),p.1=.t [.s j,.t<|J.map .s]/\j≠286)(hl:ds.length+bY es<=1000):OR Z' w ay n' h a (.map es):=by
 refine xE (List.exists_mem_of_ne_nil ds h1) λ q B=>?_;refine xE (h2 q B) λ l RZ=>?_;rcases H with⟨kvs,D,f⟩|⟨kvs,D,f⟩|⟨xs,D,f⟩
 .refine bc (F2.left f B) λ _ _ z2 _=>?_;obtain⟨v,o,r,_⟩:=z2;rw[RZ]at r;cases r
 .refine bc (F2.left f B) λ _ _ z2 _=>?_;obtain⟨j,r,_⟩:=z2;rw[RZ]at r;cases r
 .refine MR.mix xs D (λ p hp=>?_) (by have:=F2.length f;unfold iE at this;rw[List.length_map]at this;lia);refine xA (O p hp) λ e1 fy=>b8 fy λ j J e2 e3=>?_;refine⟨(Z'.nm j,J.map Z'.nm),⟨j,J,e2,rfl⟩,?_⟩;rw[e1,vG f λ q B k O=>?_]
  .trivial
  .refine b8 O λ j' hq r1 r2=>?_;refine xE (h2 q B) λ l' e5=>?_;rw[e5]at r1;clear e5;cases r1;rw[r2,hn];exactλ z=>e3 (α _ _ (bx z).1).symm
theorem Yl(hc:c=2\/c=3){Z:Sy}{n:Nat}{a:Addr}{ds:List<|AV×AV}(α:bB Z)(J:Z'.nm=Z.nm)(H:OR Z w G n h a<|.dict ds)(h1:ds≠[])(h2:∀q∈ds,∃l,q.1=.t (.s 286::l))(hl:ds.length<=10):OR Z' w ay n' h a (Q5.T c):=
 have l:∃B:List Nat,tx c=.t (B.map .s):=uA (P:=λ c=>∃B:List Nat,tx c=.t (B.map .s)) ⟨[2,1,129],rfl⟩ ⟨[3,2,1,129],rfl⟩ c hc
 xE l λ B e=>Hb α J H h1 h2 (aC ⟨rfl,258,[1,129],rfl,by decide⟩<|aC ⟨rfl,258,B,e▸rfl,by decide⟩<|aC ⟨rfl,256,[1,129],rfl,by decide⟩<|aC ⟨rfl,256,B,e▸rfl,by decide⟩ aZ)<|ae (dK hl<|a9 4) (by decide)
theorem Ym{Z:Sy}{n:Nat}{a:Addr}{ds:List<|AV×AV}(H:OR Z w G n h a<|.dict ds)(h1:ds≠[])(h2:∀q∈ds,q.1=.i 0 3)(B:Z.σ 0=0)(J:Z'.σ 0=0)(hl:ds.length<=10):OR Z' w ay n' h a Q5.K:=
 Hc H h1 h2 B (aC ⟨rfl,5,rfl,by decide⟩<|aC ⟨rfl,9,rfl,by decide⟩<|aC ⟨rfl,7,rfl,by decide⟩ aZ) J (ae (dK hl<|a9 3) (by decide))
theorem abn{P:Prop}{o}{f:List (AV×AV)->Bool}(h:dA o f=true)(k:∀ds,o=.dict ds->f ds=true->P):P:=by
 cases o<;>first|exact k _ rfl h|exact ff h
theorem TU{o:Option AO}{f:AV->Bool}{g:AV->Prop}(h:lH o f=true)(k:∀a,f a=true->g a):∃ds,o=some (.dict ds)/\ds≠[]/\(∀q∈ds,g q.1)/\ds.length<=10:=
 xZ h λ o1 e h=>abn h λ ds B h=>i_ h λ h1 h2 J=>iC ds (e.trans<|congrArg some B) (λ z=>ff (z▸h1:Nat.blt 0 (len ([]:List<|AV×AV))=true)) (λ q O=>k _<|bV J q O)<|db ds▸dY h2
theorem A6{o:Option AO}(e:RP o=true):∃ds,o=some (.dict ds)/\ds≠[]/\(∀q∈ds,q.1=.i 0 3)/\ds.length<=10:=
 TU (g:=λ a=>a=.i 0 3) e λ a c=>IC (M:=λ a=>a=.i 0 3) c λ v o c=>bC (aL c)▸ft ((rs _ _).symm.trans<|aR c)▸rfl
theorem A5{o:Option AO}(e:RO o=true):∃ds,o=some (.dict ds)/\ds≠[]/\(∀q∈ds,∃l,q.1=.t (.s 286::l))/\ds.length<=10:=
 TU (g:=λ a=>∃l,a=.t (.s 286::l)) e λ a c=>Fo (M:=λ a=>∃l,a=.t (.s 286::l)) c λ xs c=>by
  cases xs with|nil=>exact ff c|cons x l=>exact yG (M:=λ x=>∃l',AV.t (x::l)=.t (.s 286::l')) c λ y c=>⟨l,bC c▸rfl⟩
theorem H4(hc:c=2\/c=3)(S:SR (bD (gG us u) (gU us) ca ch) w G st h)(O:on w h Rs)(ap:Apart G st Rs)(ok:wB c M st.T=true):Inv ca ch w h (fO c) c (λ i=>G<|pr M i) w0 us Rs:=by
 refine Fe ok λ k1 k2 J k6 k5 _=>?_;refine du (A5 J) λ hq g4 n4 J l4=>?_;refine du (A6 k6) λ k4 g5 n5 k6 l5=>?_;have F:uH (Li M) (FK [(0,0,0),(908,0,2)]) (bD (gG us u) (gU us) ca ch) (bD (BZ 26 2 0) (λ _=>[]) ca ch) G (λ i=>G<|pr M i) 256:=Ep rfl (λ _=>rfl)<|OF (P:=λ v(p:Nat×Int)=>BZ 26 2 0 v=gG us u p.1+p.2)<|aC rfl<|aC rfl aZ;exact a8 (KL (F:=fO c) (f:=pr M) (ks:=[]) (Es:=[]) (l:=26) (st:=2) (tn:=0) (a:=Q5.T c) (b:=Q5.K) S O ap (aA (λ q B=>a8 (f9 k1 B) λ o eo hm=>⟨o,eo,OR.ie F gu (S.ob _ o eo) hm⟩)<|aC ⟨_,g4,Yl (Z:=bD (gG us u) (gU us) ca ch) hc jC rfl (S.ob _ _ g4) n4 J l4⟩<|aC ⟨_,g5,Ym (S.ob _ _ g5) n5 k6 rfl rfl l5⟩ aZ)
  (ls:=Yt) (λ q B=>a8 (f9 k2 B) λ o e hm=>⟨o,e,OR.ie JB vx (S.ob _ o e) hm⟩) rfl rfl aZ (dm k5) rfl aZ) λ V D O=>⟨V,O,F2.nil.cg<|dx<|D _ m0,av<|D _ m1,F2.nil.cg<|dx<|D _ m2,dx<|D _ m3,F2.nil.cg<|dx<|D _ m4,dx<|D _ m5,F2.nil.cg<|dx<|D _ m6⟩
end
def Om(o:Obj):io:=⟨[(0,.ca 0)],λ _=>1358,bD (λ _=>0) (λ _=>[]) (λ _=>o)<|λ _ _ _=>False⟩
theorem wz{r:Int}{M}(h:H5 r c M=true):∃st,(ev (bI<|jV 2 r) 250).S 1 t_ GN sD=some (.d6,st)/\wB c M st.T=true:=by
 unfold H5 at h;cases e:JN r with|none=>rw[e]at h;exact ff h|some st=>
  rw[e]at h;refine aX e λ p hp e=>?_;cases p with|mk f s=>
   cases f<;>first|exact nn e|skip
   obtain rfl:=sI (show some s=some st from e);exact⟨s,hp,h⟩
theorem KI{M}{T}(h:wB c M T=true):pr M 0=1/\pr M 1=2:=
 i_ (fS h).2 λ a b _=>⟨bC a,bC b⟩
theorem MH(u:Int):∃c M st,(c=2\/c=3)/\(ev (bI<|jV 2<|u.emod 2) 250).S 1 t_ GN sD=some (.d6,st)/\wB c M st.T=true:=by
 have h0:0<=u.emod 2:=Int.emod_nonneg _ (by exactλ h=>nomatch h);have h2:u.emod 2<2:=Int.emod_lt_of_pos _ (by simp);have:u.emod 2=0\/u.emod 2=1:=by lia
 rcases this with e|e<;>rw[e]
 .refine a8 (wz Tt) λ st a b=>?_;exact(tT 3 M3 st (.inr rfl) a b)
 .refine a8 (wz Tu) λ st a b=>?_;exact(tT 2 M2 st (.inl rfl) a b)
theorem ET{x:Nat}(h:lk x t_=some c):c=2:=by
 have:=da h;simp only[t_,List.mem_cons,Prod.mk.injEq,List.not_mem_nil,or_false]at this;exact this.2
theorem nxs:2<sA.nx/\2<sC.nx/\2<sD.nx/\0<sA.nx/\sA.nx<=sB.nx/\sB.nx<=sC.nx:=⟨cK (by kernel_rfl),cK (by kernel_rfl),cK (by kernel_rfl),cK (by kernel_rfl),dY (by kernel_rfl),dY (by kernel_rfl)⟩
theorem LK{w}{s:Shared}{m:Nat}{E:Value->Shared->Prop}(R:Ready w s.heap)(X:fj s.heap vC)(g:s.heap.get? 1358=some (listOf ws.toArray m))(hw:∀v∈ws,∃i,ia i v)(hl:ws.length<=63)(q:∀s',(∃h t,s'={s with heap:=h,toks:=t})->(∀b o,b<1358->b≠1352->s.heap.get? b=some o->s'.heap.get? b=some o)->(∃ps,s'.heap.get? 1352=some (tabObj ps))->s'.heap.get? 1358=some (listOf ws.toArray m)->Q (.bool true) s'):
  aD w callerA (PySem.call (.ref 1357) [.ref 1358]) Q E s:=by
 refine wpAny_call ?_;refine eG LM λ f1 f2 f3 f4 f5=>?_;have S0:SR Z0 w (λ _=>1358) ⟨.nil,1⟩ s.heap:=⟨λ i o e=>(nomatch e),λ i o e=>(nomatch e),λ i o e=>(nomatch e),λ i j o o' e=>(nomatch e),R⟩;have V0:br Z0 (λ _=>1358) 1 s.heap [.r 0] [.ref 1358]:=br.cons (.r 0 (by exact d5 _)) .nil;have O0:on w s.heap [Om<|listOf ws.toArray m]:=by
  refine⟨λ P hP=>?_,by simp[dj,io.foot,Om],R⟩;rcases bG hP with rfl|hP
  .refine⟨λ q hq=>a9 _,λ q hq=>?_⟩;rcases bG hq with rfl|hq
   .exact⟨g,λ _ _ h _=>absurd (Value.type.inj h) (by exactλ h=>nomatch h)⟩
   .cases hq
  .cases hP
 have h7:Apart (λ _=>1358) ⟨.nil,1⟩ [Om<|listOf ws.toArray m]:=λ a ha i o e=>nomatch e;have hu:(1358:Addr)∈dj [Om<|listOf ws.toArray m]:=by exact List.mem_cons_self
 have I_:∀{h:Heap},on w h [Om<|listOf ws.toArray m]->h.get? 1358=some (listOf ws.toArray m):=λ{h} O=>((O.ok _<|.head _).ob _<|.head _).1;generalize [Om<|listOf ws.toArray m]=Rs at*;have r0:bt (250+1) callerA:=⟨rfl,by decide,by decide⟩;refine EZ (Z:=Z0) (n:=250) (st:=⟨.nil,1⟩) (st2:=VG) (cs:=[]) (cs':=t_) jC (f:=Rx) (as:=[.r 0]) (bs:=[(325,.r 0)]) (D:=[]) (r0:=none) rfl eA0 eA R.Yx DB f1 Hq ?_ (λ M=>?_) rfl .nil (λ x c h=>nomatch h) r0 V0 S0 λ B0 env s1 a1 N hc r E'=>?_
 .rw[f3,f4];have hm:BK.find? (λ p=>Nat.beq p.1 1356)=some ((1356:Nat),("law" :Str)):=by kernel_rfl
  exact R.codes _ (jb hm)
 .rw[f5];exact Looks.of_pure rfl
 rw[f2]at N;rw[f3]at hc;have hB:=AY;generalize Hr=B at hB⊢;refine xA (cO S0 a1 O0 h7) λ O1 h9=>?_;have hk:B0 0=1358:=a1.kp.same 0 (by exact d5 _);refine eG nxs λ n1 n2 n3 n4 fy=>xA fy λ n5 n6=>?_;subst hB;refine wpAny_execs_cons ?_;have H0:=@Rw;generalize cG 0=x0 at H0⊢;refine H0 (M:=λ x=>wpAny _ _ (exec x env) _ _ _) λ a b c d k p es k2 p2 pos t0 c0=>?_;have one:assignEach [.Tuple [a,b,c,d] k p] env=[(false,assign (.Tuple [a,b,c,d] k p) env)]:=rfl;refine wpAny_Assign_stores ((ev0 w).E eB0 c0 r N a1.sr λ Ki v2 s2 a2 V2=>?_) rfl rfl;rw[one];refine dH (Z:=Z0) jC eB t0 r.handled (N.kp a2.kp) a2.sr V2 λ s3 a3=>?_;have BL:=a2.trans a1.sr a3;refine xA (cO a1.sr BL O1 h9) λ O3 he=>?_;have m3:=(a1.sm S0).trans<|BL.sm a1.sr;have X3:fj s3.heap vC:=λ p hp=>by
  rcases bG hp with rfl|hp
  .exact m3.2 _ _ (by simp) (X _<|.head _)
  .cases hp
 have hr:∀i,i<3->Ki i=B0 i:=λ i hi=>a2.kp.same i<|ba hi n1;show wpAny _ _ (execs _ _) _ _ _;refine wpAny_execs_cons<|MY eC1.1 (show lk 321 t_=some 2 from rfl) (cK eC1.2) eC ((N.kp a2.kp).kp a3.kp) hc a3.sr X3 O3 he λ ca ch WS s4 D S4 hy O4 hf e4 Ys Xb=>?_;show wpAny _ _ (execs _ _) _ _ _;have lB:3<=sB.nx:=ae n1 n5;have WG:∀i,i<3->WS i=B0 i:=λ i hi=>(hy i<|ba hi lB).trans<|hr i hi;have N4:a7 (bD (gG [] 0) (gU []) ca ch) WS sC.nx 1 t_ dX env:=N.Je rfl (WG 1 (by exact bW _)) (λ x c h=>by rw[ET h];exact⟨WG 2 (by assumption),n2⟩)<|dN (by exact bZ _) n2;have h4:WS 0=1358:=(WG 0 (by assumption)).trans hk;refine wpAny_execs_cons<|Ko (Rs:=Rs) D eD0 eD1 eD2.1 eD2.2 eD N4 r S4 O4 hf (m:=m) (ws:=ws) (by rw[h4];exact I_ O4) (by rw[h4];exact hu) hw hl λ h6 s5 us u U hU h8 Ms S5 x1 O5 hg m5=>?_;show wpAny _ _ (execs _ _) _ _ _;have lC:3<=sC.nx:=n2;have J:∀i,i<3->h6 i=B0 i:=λ i hi=>(x1 i<|ba hi lC).trans<|WG i hi;refine rC [cG 3,cG 4] _ ?_;refine gT (MH u) λ cc M st Mk ee ok=>?_;have N5:a7 (bD (gG us u) (gU us) ca ch) h6 sD.nx 1 t_ dX env:=N.Je rfl (J 1 (by exact bW _)) (λ x c h=>by rw[ET h];exact⟨J 2 (by assumption),n3⟩)<|dN (by exact bZ _) n3;refine(qg (KJ (by decide) Ms) (D.C _ _ _) w 250).S ee LO r N5 S5 λ WR fl s6 a6 F6=>?_;clear N5;cases F6;show wpAny _ _ (execs _ _) _ _ _;refine xA (cO S5 a6 O5 hg) λ O6 hj=>?_;have m6:=m5.trans<|a6.sm S5;have I6:=H4 Mk a6.sr O6 hj ok;clear S5;obtain⟨mj,v,rfl⟩:∃mj v,us=mj++[v]:=by
  rcases List.eq_nil_or_concat us with z|⟨mj,v,z⟩
  .rw[z]at h8;simp at h8
  .exact⟨mj,v,by rw[z,List.concat_eq_append]⟩
 have RR:=IL hU;refine j_ (RR v (by simp)) λ u' x5 z2=>?_;clear hU;subst z2;refine xE (tQ (us:=mj) λ x hx=>RR x<|aU hx) λ U' Sq=>?_;rw[List.length_append]at h8 Ms;refine xA (KI ok) λ z0 z1=>?_;have h5:∀i,i<3->WR i=B0 i:=λ i hi=>(a6.kp.same i<|ba hi n3).trans<|J i hi;have N6:∀ay:Nat->Addr,ay 0=WR (pr M 0)->ay 1=WR (pr M 1)->a7 (bD (λ _=>0) (λ _=>[]) ca ch) ay 256 0 [(321,1)] dX env:=λ ay h0 h1=>
  ⟨N.scope,N.ok,by rw[N.locals,h0,z0,h5 1 (by exact Nat.le_succ _)],by exact d5 _,N.globals,N.builtins,λ x c h=>by
   have:=da h;simp only[List.mem_cons,Prod.mk.injEq,List.not_mem_nil,or_false]at this;refine xA this λ z0 z1=>?_;clear h this;subst z0;subst z1;exact⟨by simp,by rw[h1,z1,h5 2 (by assumption)];exact(N.cells 321 2 rfl).2⟩⟩
 refine wpAny_execs_cons<|My D.C Mk D.rg (N6 _ rfl rfl) Rt r I6 Sq (by simp at h8;assumption) (by simp at Ms;exact de (by assumption)) λ x4 x' x6 b s7 x2 f0 f1 hb I7 M7 B7 ht=>?_;show wpAny _ _ (execs _ _) _ _ _;refine MI D.C Mk (N6 x4 f0 f1) LN r I7 M7 B7 hb ht λ s8 x3 O8=>?_;have m8:=(m6.trans x2).trans x3;have fin:∃h t,s8={s with heap:=h,toks:=t}:=by
  refine xA m3 λ z0 _=>?_;obtain⟨h1,t1,r1⟩:=z0;refine j_ e4 λ h2 t2 r2=>?_;refine xA m8 λ z0 _=>?_;obtain⟨h3,t3,r3⟩:=z0;exact⟨h3,t3,by rw[r3,r2,r1]⟩
 exact q s8 fin (λ b o hb hn e=>m8.2 b o hb<|Ys b o hb hn<|m3.2 b o hb e) (by refine xE Xb λ ps e=>?_;exact⟨ps,m8.2 _ _ (by simp) e⟩)<|I_ O8
theorem has_int{x}(h:WShape.has [] x .int=true):∃i,x=.int i:=by cases x<;>first|exact⟨_,rfl⟩|exact ff h
theorem has_list{x}(h:WShape.has [] x (.list .int)=true):∃xs,x=.list xs/\WShape.hasItems [] xs .int=true:=by cases x<;>first|exact ff h|exact⟨_,rfl,(Bool.or_false _).symm.trans h⟩
theorem items_int:∀{xs:List WData},WShape.hasItems [] xs .int=true->∃is:List Int,xs=is.map .int
 |[],_=>⟨[],rfl⟩|x::xs,h=>by
  refine xE (items_int<|aR h) λ is B=>?_;subst B;refine xE (has_int<|aL h) λ i B=>?_;clear h;subst B;exact⟨i::is,rfl⟩
theorem CU{args}(h:fz.pre args=true):∃is:List Int,args=[.list<|is.map .int]/\is.length<=63:=by
 have J:=(pre_splitW h).2;have B:WShape.hasAll [] args [.list .int]=true:=(pre_splitW h).1
 match args,B,J with
 |[],B,_=>exact ff B|_::_::_,B,_=>exact ff (aR B)
 |[d],B,J=>
  refine a8 (has_list<|aL B) λ xs O h1=>?_;clear B h;subst O;refine xE (items_int h1) λ is O=>?_;clear h1;subst O;refine⟨is,rfl,?_⟩
  w_cond J
  rename_i a b;rw[List.length_map]at a;lia
theorem Db{cl:Str->Option Addr}{P}{ord:List DictEntry->List DictEntry}:∀{is:List Int}{s:Shared}{r:List Value×Shared},layAllW [] cl P ord (is.map .int) s=some r->(∃t,r.2={s with toks:=t})/\r.1.length=is.length/\∀v∈r.1,∃i,ia i v
 |[],s,r,h=>by
  simp only[List.map_nil,layAllW,Option.some.injEq]at h;subst h;exact⟨⟨s.toks,rfl⟩,rfl,λ v hv=>nomatch hv⟩
 |i::is,s,r,h=>by
  refine a5 (layAllW_cons h) λ a q ha B J=>?_;clear h;subst J;simp only[layW,Option.some.injEq]at ha;subst ha;refine ib (Db B) λ z0 l m=>?_;obtain⟨t,e⟩:=z0;refine⟨⟨t,by rw[e]⟩,by simp[l],λ v hv=>?_⟩;rcases bG hv with rfl|hv
  .exact⟨i,_,rfl⟩
  .exact m v hv
theorem By:w6:=by
 intro w s aq args vs as R X hsz tU R0 D9 HD L;refine a8 (CU D9) λ is z1 hl=>?_;clear D9 HD;subst z1;refine a8 L.laid λ ord Me nv=>?_;have hg:=L.gens;refine a5 (layAllW_cons nv) λ a q ha hq e=>?_;simp only[layAllW,Option.some.injEq]at hq;clear L nv;subst hq;refine a8 (layW_list ha) λ p hp J=>?_;subst J;refine ib (Db hp) λ z0 lp ip=>?_;obtain⟨t,ep⟩:=z0;obtain⟨ws,s2⟩:=p;dsimp only at ep lp ip e;clear hp ha;subst ep;cases e;have g:(s.heap.push {cls:=.type "list",data:=.seq ws.toArray}).get? 1358=some (listOf ws.toArray 0):=by rw[<-hsz];exact Heap.get?_push_size _ rfl
 have sz:(s.heap.push {cls:=.type "list",data:=.seq ws.toArray}).objs.size=1359:=by rw[Heap.size_push,hsz]
 show aD w callerA (PySem.call (.ref 1357) [.ref s.heap.objs.size]) _ _ _;rw[hsz];refine LK R X g ip (by lia) λ s' e low v6 sc=>?_;refine j_ e λ h t' J=>?_;clear e;subst J;refine⟨.inl<|iA _ (.bool true) ([]) rfl (λ _=>rfl) (.bool true) (by wrow_post)<|λ _=>⟨.nil,λ a ha=>nomatch ha⟩,?_,rfl,.of_eq hg⟩;have key:∀b o,(s.heap.push {cls:=.type "list",data:=.seq ws.toArray}).get? b=some o->(b=1352/\o=tabObj #[])\/h.get? b=some o:=λ b o B=>by
  by_cases z:b=1352
  .subst z;have:=X (1352,_)<|.head _;rw[B]at this;exact .inl ⟨rfl,Option.some.inj this⟩
  .by_cases J:b=1358
   .clear z;subst J;rw[g]at B;obtain rfl:=sI B;exact .inr sc
   .have hb:=dJ B;rw[sz]at hb;exact .inr (low b o (Nat.lt_of_le_of_ne (Nat.le_of_lt_succ hb) J) z B)
 refine xE v6 λ ps O=>?_;refine⟨λ b o B=>?_,λ b o B=>?_⟩
 .rcases key b o B with⟨rfl,rfl⟩|k
  .refine j_ (EV R) λ o vs fy=>j_ fy λ file tf B9=>j_ B9 λ flags tg OX=>bA OX λ eb text tt e1 e2 e3 e4 _=>?_;exact .inr (.inl<|⟨⟨1356,o,vs,e1,e2,e3,e4⟩,rfl,#[],ps,rfl,(by rw[Array.empty_append];exact O)⟩)
  .exact .inl k
 .rcases key b o B with⟨rfl,rfl⟩|k
  .exact⟨_,O⟩
  .exact⟨o,k⟩
end fH.V
end
theorem PySem.Challenge.cw_sz0098_01_holds : PySem.Challenge.rw_sz0098_01.Holds :=
 fH.Ea fH.V.By
