import PyProof.Rows.All
import Wide.All
import OpenK.AllK
import Wide.FinOn
import Lean
import PySem.Challenge.RW_nt0463_01
set_option Elab.async false
set_option compiler.extract_closed false
set_option genSizeOf false
set_option genInjectivity false
set_option bootstrap.genMatcherCode false
set_option tactic.hygienic false
set_option maxRecDepth 1000000
set_option maxHeartbeats 8000000
set_option linter.unusedVariables false
set_option linter.unusedSimpArgs false
local macro_rules | `(tactic| walk_at "t") => `(tactic| first | exact Nat.le_refl _ | exact Nat.le_succ _ | assumption | omega)
section
open PySem PySem.W PyProof.Rows PySem.Calls PySem.SeqAt
namespace Mine.Internal
theorem aLJ:type_of% @Classical.byContradiction:=@Classical.byContradiction
theorem aLK:type_of% @Nat.le_of_ble_eq_true:=@Nat.le_of_ble_eq_true
theorem aLL:type_of% @Nat.lt_of_lt_of_le:=@Nat.lt_of_lt_of_le
theorem aLM:type_of% @List.mem_cons_of_mem:=@List.mem_cons_of_mem
theorem aLN:type_of% @List.getElem?_eq_getElem:=@List.getElem?_eq_getElem
theorem aLO:type_of% @Nat.le_refl:=@Nat.le_refl
theorem aLP:type_of% @Option.some.inj:=@Option.some.inj
theorem aLQ:type_of% @List.Mem.head:=@List.Mem.head
theorem aLR:type_of% @Nat.add_lt_add_right:=@Nat.add_lt_add_right
theorem aLS:type_of% @Heap.get?_push_of_some:=@Heap.get?_push_of_some
theorem aLT:type_of% @Nat.ne_of_lt:=@Nat.ne_of_lt
theorem aLU:type_of% @Nat.eq_of_beq_eq_true:=@Nat.eq_of_beq_eq_true
theorem aLV:type_of% @Nat.le_succ:=@Nat.le_succ
theorem aLW:type_of% @PySem.sizeLine_eq:=@PySem.sizeLine_eq
theorem aLX:type_of% @List.length_map:=@List.length_map
theorem aLY:type_of% @Nat.le_add_right:=@Nat.le_add_right
theorem aLZ:type_of% @Nat.lt_add_of_pos_right:=@Nat.lt_add_of_pos_right
theorem aL0:type_of% @Nat.lt_of_le_of_lt:=@Nat.lt_of_le_of_lt
theorem aL1:type_of% @Nat.le_trans:=@Nat.le_trans
theorem aL2:type_of% @Heap.lt_size:=@Heap.lt_size
theorem aL3:type_of% @Nat.le_of_lt:=@Nat.le_of_lt
theorem aL4:type_of% @Heap.get?_push_size:=@Heap.get?_push_size
theorem aL5:type_of% @List.mem_cons_self:=@List.mem_cons_self
theorem aL6:type_of% @List.drop_of_length_le:=@List.drop_of_length_le
theorem aL7:type_of% @List.getD_eq_getElem?_getD:=@List.getD_eq_getElem?_getD
theorem aL8:type_of% @List.getElem?_map:=@List.getElem?_map
theorem aL9:type_of% @List.getElem?_append_left:=@List.getElem?_append_left
theorem aMa:type_of% @List.getElem?_append_right:=@List.getElem?_append_right
theorem aMb:type_of% @List.map_append:=@List.map_append
theorem aMc:type_of% @List.getElem_mem:=@List.getElem_mem
theorem aMd:type_of% @Ne.symm:=@Ne.symm
theorem aMe:type_of% @List.length_append:=@List.length_append
end Mine.Internal
end
noncomputable section
namespace Mine.Internal
variable {a b c d e f g i j k:Nat}
theorem ZA(p:b / 2=a / 2)(q:b % 2=a % 2):b=a:=(Nat.div_add_mod b 2).symm.trans ((congr (congrArg (λx y=>2*x+y) p) q).trans (Nat.div_add_mod a 2))
theorem NY(h:¬a=0)(q:¬a % 2=1):a % 2=0:=(Nat.mod_two_eq_zero_or_one a).resolve_right q
theorem YZ(h:¬a=0)(q:¬a % 2=1):a / 2-1+1=a / 2:=Nat.succ_pred λz=>h ((Nat.div_add_mod a 2).symm.trans (congr (congrArg (λx y=>2*x+y) z) (NY h q)))
theorem aFe:¬a=0->¬a % 2=1->¬b=0->¬b % 2=1->¬b=a->¬b / 2-1=a / 2-1:=λh1 h2 h3 h4 h5 z=>h5 (ZA ((YZ h3 h4).symm.trans ((congrArg (·+1) z).trans (YZ h1 h2))) ((NY h3 h4).trans (NY h1 h2).symm))
theorem aGP:a % 2=1->b % 2=1->¬b=a->¬b / 2=a / 2:=λh1 h2 h3 q=>h3 (ZA q (h2.trans h1.symm))
theorem aFl:¬a % 2=1->b % 2=1->¬b=a:=λh1 h2 q=>h1 (q▸h2)
theorem aGN:a % 2=1->¬b % 2=1->¬b=a:=λh1 h2 q=>h2 (q▸h1)
theorem aGO:a % 2=1->b=0->¬b=a:=λh p q=>Nat.zero_ne_one ((congrArg (· % 2) (p.symm.trans q)).trans h)
theorem aFf:¬a=0->b=0->¬b=a:=λh p q=>h (q.symm.trans p)
theorem aKl:a<b->¬a=c->¬(c<a/\a<=d)->c<b/\b<=d->a<b-1:=λh1 h2 h3 h4=>aLL (Nat.lt_of_le_of_ne (Nat.le_of_not_lt λq=>h3 ⟨q,aL1 (aL3 h1) h4.2⟩) h2) (Nat.le_pred_of_lt h4.1)
theorem aJY:a-b<=c+1->(b+a) / 2-b<=c:=λh=>Nat.sub_le_of_le_add (Nat.le_of_lt_succ (Nat.div_lt_of_lt_mul (aL0 (Nat.add_le_add_left (Nat.le_add_of_sub_le h) b) (aLL (Nat.add_lt_add_of_lt_of_le (Nat.lt_succ_of_le (Nat.le_add_left b c)) (Nat.le_of_eq (Nat.add_right_comm c 1 b))) (Nat.le_of_eq (Nat.two_mul _).symm)))))
theorem aDZ{x y:Nat}(h:x<=y)(k:1<=y):x-1+1<=y:=Nat.casesOn (motive:=λx=>x<=y->x-1+1<=y) x (λh=>k) (λn h=>h) h
theorem aGE:a+1<2 ^ (b+1)->¬a=0->a / 2-1+1<2 ^ b:=λh z=>aL0 (aDZ (Nat.div_le_div_right (aLV a)) ((Nat.le_div_iff_mul_le (Nat.succ_pos 1)).mpr (Nat.succ_le_succ (Nat.pos_of_ne_zero z)))) (Nat.div_lt_of_lt_mul (aLL h (Nat.le_of_eq Nat.pow_succ')))
theorem aHy:a<b->b<c->c-1-b<c-1-a:=λh1 h2=>Nat.sub_lt_sub_left (aLL h1 (Nat.le_pred_of_lt h2)) h1
theorem aJX:a-b<=c+1->a-((b+a) / 2+1)<=c:=λh=>Nat.sub_le_of_le_add (Nat.le_of_not_lt λq=>Nat.lt_irrefl _ (aLL (Nat.lt_mul_div_succ (b+a) (Nat.succ_pos 1)) (aL1 (Nat.le_of_eq (Nat.two_mul _)) (Nat.add_le_add (Nat.le_of_add_le_add_left (aL1 (Nat.le_of_eq (Nat.add_right_comm c 1 _)) (aL1 q (Nat.le_add_of_sub_le h)))) (aL1 (Nat.le_add_left _ c) (aL3 q))))))
theorem aFn:a<=b->b-(b-a)=a:=λh=>Nat.sub_sub_self h
theorem aKn:a<b->c<a/\a<=d->a-1<b-1:=λh1 h2=>Nat.sub_lt_sub_right (Nat.succ_le_of_lt (Nat.zero_lt_of_lt h2.1)) h1
theorem aFh:¬a<b->¬a=b->a-b=a-(b+1)+1:=λh1 h2=>(Nat.succ_pred (Nat.sub_ne_zero_of_lt (Nat.lt_of_le_of_ne (Nat.le_of_not_lt h1) (aMd h2)))).symm
theorem aAG:a+1<=b->b-a=b-(a+1)+1:=λh=>(Nat.succ_pred (Nat.sub_ne_zero_of_lt h)).symm
theorem aKH:a<20->b<700->c=b+2->d=c->e=a->f<=e+1->g<=f+1->i=d->j=g->k=i+1->k+2*j<900:=λh1 h2 h3 h4 h5 h6 h7 h8 h9 h10=>aLL (Nat.add_lt_add_of_lt_of_le (aL0 (Nat.le_of_eq (h10.trans (congrArg Nat.succ (h8.trans (h4.trans h3))))) (aLR h2 3)) (Nat.mul_le_mul_left 2 (aL1 (Nat.le_of_eq h9) (aL1 h7 (Nat.succ_le_succ (aL1 h6 (Nat.succ_le_succ (aL1 (Nat.le_of_eq h5) (aL3 h1))))))))) (aLK rfl)
theorem aGY:1<a->b<=1+1+(a-(1+1))->b+(a-b)<=a:=λh1 h2=>Nat.le_of_eq (Nat.add_sub_cancel' (aL1 h2 (Nat.le_of_eq (Nat.add_sub_cancel' h1))))
theorem aAO:1<a->b<=1+1+(a-(1+1))->b<=a:=λh1 h2=>aL1 h2 (Nat.le_of_eq (Nat.add_sub_cancel' h1))
theorem aE4:1<a->1+1+(a-(1+1))<=a:=λh1=>Nat.le_of_eq (Nat.add_sub_cancel' h1)
theorem aJP:a<b->a=c->c<=b-1:=λh q=>q▸Nat.le_pred_of_lt h
theorem aGF:a+1<2 ^ (b+1)->a % 2=1->a / 2+1<2 ^ b:=λh q=>Nat.lt_of_mul_lt_mul_left (a:=2) (aL0 (Nat.le_of_eq (congrArg Nat.succ ((congrArg (2*(a / 2) + ·) q.symm).trans (Nat.div_add_mod a 2)))) (aLL h (Nat.le_of_eq Nat.pow_succ')))
theorem aKe:a=b->c+2<=d->d<c+2+b->d-(c+2)<a:=λe h1 h2=>e▸Nat.sub_lt_left_of_lt_add h1 h2
theorem aKJ{a:Int}:a.natAbs<1000000->a<2 ^ 64:=λh=>Int.lt_of_le_of_lt Int.le_natAbs (Int.lt_trans (Int.ofNat_lt.mpr h) (by decide))
theorem aKM{a:Int}:a.natAbs<1000000->-2 ^ 64<a:=λh=>Int.neg_lt_of_neg_lt (Int.lt_of_le_of_lt Int.le_natAbs (Int.lt_trans (Int.ofNat_lt.mpr ((Int.natAbs_neg a).symm▸h)) (by decide)))
theorem aAu:a<b->¬a=b-1->a<b-1:=λh q=>Nat.lt_of_le_of_ne (Nat.le_pred_of_lt h) q
theorem aKd:a=b->c<d+2+b->¬c<d+2->c-(d+2)<a:=λe h1 h2=>e▸Nat.sub_lt_left_of_lt_add (Nat.le_of_not_lt h2) h1
theorem aCi:a<b->b<c+1->b-1<c:=λh1 h2=>aLL (Nat.pred_lt (Nat.ne_zero_of_lt h1)) (Nat.le_of_lt_succ h2)
theorem aCk:a+(b+1)<=c->a-1<c:=λh=>aL0 (Nat.sub_le _ _) (aLL (aLZ (Nat.succ_pos b)) h)
theorem aJN:a<b->b-1-c<b:=λh=>aL0 (Nat.sub_le _ _) (Nat.pred_lt (Nat.ne_zero_of_lt h))
theorem aG7:a<=b->a<=b-c+c:=λh=>Nat.sub_le_iff_le_add.mp (Nat.sub_le_sub_right h c)
theorem aG6:a<=b->c<b+1->¬c=a->¬(a<c/\c<=b)->c<b:=λh1 h2 h3 h4=>aLL (Nat.lt_of_le_of_ne (Nat.le_of_not_lt λq=>h4 ⟨q,Nat.le_of_lt_succ h2⟩) h3) h1
theorem aKG:a<20->b=6->c=a->d<=c+1->e<=d+1->f=e->b+1+f<1000:=λh1 h2 h3 h4 h5 h6=>aL0 (Nat.add_le_add (Nat.succ_le_succ (Nat.le_of_eq h2)) (aL1 (Nat.le_of_eq h6) (aL1 h5 (Nat.succ_le_succ (aL1 h4 (Nat.succ_le_succ (aL1 (Nat.le_of_eq h3) (aL3 h1)))))))) (aLK rfl)
theorem VV{a:Int}:a.natAbs<1000000->-10000000<a:=λh=>Int.neg_lt_of_neg_lt (Int.lt_of_le_of_lt Int.le_natAbs (Int.lt_trans (Int.ofNat_lt.mpr ((Int.natAbs_neg a).symm▸h)) (by decide)))
theorem aEW:45<=a/\a<100->a=a-1+1:=λh=>(Nat.succ_pred (Nat.ne_zero_of_lt h.1)).symm
theorem aJZ:a-b<=0->b<=c->a<=c:=λh1 h2=>aL1 (Nat.le_of_sub_eq_zero (Nat.eq_zero_of_le_zero h1)) h2
theorem aKA:a<b->c<=a->(d+c) / 2<c->e<(d+c) / 2+1->e<b:=λh1 h2 h3 h4=>aL0 (Nat.le_of_lt_succ h4) (Nat.lt_trans (aLL h3 h2) h1)
theorem aD6:a<b->c<=a->(d+c) / 2<c->(d+c) / 2<b:=λh1 h2 h3=>Nat.lt_trans (aLL h3 h2) h1
theorem aJ3:a+2<b->c<a+2->c≠b:=λh1 h2=>aLT (Nat.lt_trans h2 h1)
theorem aAH:a+1<=b->b-(a+1)<b:=λh=>Nat.sub_lt (Nat.zero_lt_of_lt h) (Nat.succ_pos _)
theorem aFZ:a<b->a-1<b:=λh=>Nat.sub_lt_of_lt h
theorem aKb:a<=1000000->b+c*a<=d+a->d<100000->¬b+c*a>16777216:=λh1 h2 h3=>Nat.not_lt_of_le (aL1 h2 (aL1 (Nat.add_le_add (aL3 h3) h1) (aLK rfl)))
theorem HW{k m a b c N:Nat}(h:a<b)(p:k<=m)(q:c+m*b<N):c+k+m*a<N:=aL0 (aL1 (Nat.le_of_eq (Nat.add_right_comm c k (m*a))) (aL1 (Nat.add_le_add_left p _) (aL1 (Nat.le_of_eq (Nat.add_assoc c (m*a) m)) (Nat.add_le_add_left (Nat.mul_le_mul_left m h) c)))) q
theorem aHv:a<b->c+3*b<990->c+1+3*a<990:=λh q=>HW h (aLK rfl) q
theorem aHw:a<b->c+20*b<9800->c+3+20*a<9800:=λh q=>HW h (aLK rfl) q
theorem aD7:a<b->c=d+1->d+3*b<990->c+1+3*a<990:=λh e q=>e▸HW (k:=2) h (aLK rfl) q
theorem aD8:a<b->c=d+1->d+20*b<9800->c+3+20*a<9800:=λh e q=>e▸HW (k:=4) h (aLK rfl) q
theorem aGX:1<=a->b>=a->b≠b-1:=λh1 h2=>Nat.ne_of_gt (Nat.pred_lt (Nat.ne_zero_of_lt (aLL h1 h2)))
theorem aE1:1<=a->a≠a-1:=λh=>Nat.ne_of_gt (Nat.pred_lt (Nat.ne_zero_of_lt h))
theorem aKP{a:Int}: -10000000<a->a<10000000->-2 ^ 63<=a/\a<2 ^ 63:=λh1 h2=>⟨Int.le_of_lt (Int.lt_trans (by decide) h1),Int.lt_trans h2 (by decide)⟩
theorem aEw:a>1->0<a-1:=λh=>Nat.zero_lt_sub_of_lt h
theorem aAx:a<b->b-1<b:=λh=>Nat.pred_lt (Nat.ne_zero_of_lt h)
theorem aGH:a+1+3*b<990->a<1000:=λh=>Nat.lt_trans (aLL (Nat.lt_succ_self a) (aLY _ _)) (Nat.lt_trans h (aLK rfl))
theorem aJ6:a+2*(b+1)<900->c=a+2->c+2*b<900:=λh e=>e▸aL0 (Nat.le_of_eq (Nat.add_right_comm a 2 (2*b))) h
theorem aFc:¬a>=b->a<=(a+b) / 2:=λh=>(Nat.le_div_iff_mul_le (Nat.succ_pos 1)).mpr (aL1 (Nat.le_of_eq (Nat.mul_two a)) (Nat.add_le_add_left (Nat.le_of_not_ge h) a))
theorem aFd:¬a>=b->(a+b) / 2<b:=λh=>Nat.div_lt_of_lt_mul (aLL (aLR (Nat.lt_of_not_ge h) b) (Nat.le_of_eq (Nat.two_mul b).symm))
theorem aKo:a<b->b<c+1->d<a/\a<=c->d<b/\b<=c:=λh1 h2 h3=>⟨Nat.lt_trans h3.1 h1,Nat.le_of_lt_succ h2⟩
theorem aKp:a<b->b<c+1->a=d->d<b/\b<=c:=λh1 h2 h3=>⟨h3▸h1,Nat.le_of_lt_succ h2⟩
theorem aJ8:a+1000000*(b+1)<=16000000->c<=1000000->a+c+1000000*b<=16000000:=λh1 h2=>aL1 (aL1 (Nat.le_of_eq (Nat.add_right_comm a c _)) (aL1 (Nat.add_le_add_left h2 _) (Nat.le_of_eq ((Nat.add_assoc a _ _).trans (congrArg (a + ·) (Nat.mul_succ _ _).symm))))) h1
theorem aJ7:a+1000000*(b+1)<=16000000->c<=1000000->a+c<=16777216:=λh1 h2=>aL1 (Nat.add_le_add_left (aL1 h2 (Nat.le_add_left _ (1000000*b))) a) (aL1 h1 (aLK rfl))
theorem aGv:a+20*b<9800->a+5<9900:=λh=>aLL (aLR (aL0 (aLY a _) h) 5) (aLK rfl)
theorem aJT:a<20->b=6->c<=a+2->b+(c+1)<100000:=λh1 h2 h3=>h2▸aL0 (Nat.add_le_add_left (Nat.succ_le_succ (aL1 h3 (Nat.add_le_add_right (aL3 h1) 2))) 6) (aLK rfl)
theorem aG9:a<=b->(c+a) / 2<a->(c+a) / 2<=b:=λh1 h2=>aL1 (aL3 h2) h1
theorem aG8:a<=b->(c+a) / 2<a->b≠(c+a) / 2:=λh1 h2=>Nat.ne_of_gt (aLL h2 h1)
theorem aG4:¬a<b+1+c->¬a<b+(c+1):=λh=>(Nat.add_right_comm b 1 c)▸h
theorem aKu:a=b+3->a<=c->d=c+1->e<b->¬e=d:=λh1 h2 h3 h4=>aLT (h3▸aLL h4 (Nat.le_succ_of_le (aL1 (h1▸aLY b 3) h2)))
theorem aJW:a<(b+c) / 2+1->¬a=(b+c) / 2->a<(b+c) / 2:=λh1 h2=>Nat.lt_of_le_of_ne (Nat.le_of_lt_succ h1) h2
theorem aHb:a<=8->b<=a+2->c=6->c+1+b<100:=λh1 h2 h3=>h3▸aL0 (Nat.add_le_add_left (aL1 h2 (Nat.add_le_add_right h1 2)) 7) (aLK rfl)
theorem aKr:a<20->b=a->c<=b+1->d<=c+1->d<64:=λh1 h2 h3 h4=>aL0 (aL1 h4 (Nat.succ_le_succ (aL1 h3 (Nat.succ_le_succ (h2▸aL3 h1))))) (aLK rfl)
theorem aKB:a<20->b=a->c<=b+1->d<=c+1->e=d->e<100000:=λh1 h2 h3 h4 h5=>h5▸aL0 (aL1 h4 (Nat.succ_le_succ (aL1 h3 (Nat.succ_le_succ (h2▸aL3 h1))))) (aLK rfl)
theorem aF1:a<b->a+(b-a)=b:=λh=>Nat.add_sub_cancel' (aL3 h)
theorem aGk:a<100->45<=b/\b<100->b+2+a<=1000:=λh1 h2=>aL1 (Nat.add_le_add (Nat.add_le_add_right (aL3 h2.2) 2) (aL3 h1)) (aLK rfl)
theorem aGl:a<100->45<=b/\b<100->b+2+a<1000:=λh1 h2=>aL0 (Nat.add_le_add (Nat.add_le_add_right (aL3 h2.2) 2) (aL3 h1)) (aLK rfl)
theorem aAJ:a+(b+1)<1000->a+1+b<1000:=λh=>aL0 (Nat.le_of_eq (Nat.add_right_comm a 1 b)) h
theorem aGL:a+(b+1)<500->a+1+b<500:=λh=>aL0 (Nat.le_of_eq (Nat.add_right_comm a 1 b)) h
theorem aGM:a+(b+1)<1000->a+1<100000:=λh=>aL0 (Nat.add_le_add_left (Nat.succ_le_succ (Nat.zero_le b)) a) (Nat.lt_trans h (aLK rfl))
theorem aKq:a<900->b+(c+1)=a->d<=b->d<1000:=λh1 h2 h3=>aL0 h3 (aL0 (aLY b (c+1)) (h2.symm▸Nat.lt_trans h1 (aLK rfl)))
theorem aGp:a+5<b->a+1+2<b:=λh=>Nat.lt_trans (Nat.add_lt_add_left (aLK rfl:3<5) a) h
theorem OS:a<=1000000->b<c->a=c->(b:Int)<2 ^ 63:=λh1 h2 h3=>Int.ofNat_lt.mpr (aLL h2 (h3▸aL1 h1 (aLK rfl:_<=2 ^ 63)))
theorem aAV:a<b->c=b->c<=1000->a+1<2 ^ 10:=λh1 h2 h3=>aL0 (Nat.succ_le_of_lt h1) (h2▸aL0 h3 (aLK rfl))
theorem aJU:a<2->b<c->¬c<a:=λh1 h2 h3=>Nat.not_lt_zero b (aLL h2 (Nat.le_of_lt_succ (aLL h3 (Nat.le_of_lt_succ h1))))
theorem aEY:45<=a/\a<100->40<a+2:=λh=>aLL (aLK rfl) (Nat.le_add_right_of_le h.1)
theorem sY:45<=a/\a<100->41<a+2:=λh=>aLL (aLK rfl) (Nat.le_add_right_of_le h.1)
theorem aKD:a=b+2->c=a->d=c->e=d+1->f<b->f<e:=λh1 h2 h3 h4 h5=>h4▸h3▸h2▸h1▸aLL h5 (aLY b 3)
theorem aKI{b:Int}:a<10->b=(a:Int)->b<10:=λh1 h2=>h2▸Int.ofNat_lt.mpr h1
theorem aKk:a=b+1+c->d<=c->d<=a:=λh1 h2=>h1▸aL1 h2 (Nat.le_add_left _ _)
theorem aAL:a*b<100000->((a*b):Int)<=2 ^ 63-1:=λh=>Int.le_trans (Int.ofNat_le.mpr (aL3 h)) (by decide)
theorem aAy:a<b->b-(a+1)+1=b-a:=λh=>Nat.succ_pred (Nat.sub_ne_zero_of_lt h)
theorem aFv:a<=1000000->b<a->¬(b:Int)>=2 ^ 63:=λh1 h2 h3=>Nat.not_le_of_lt (aLL h2 (aL1 h1 (aLK rfl:_<=2 ^ 63))) (Int.ofNat_le.mp h3)
theorem aFz:a=b->¬a<2->1<=b:=λe h=>e▸Nat.le_of_succ_le (Nat.le_of_not_lt h)
theorem aDY(h:a<=1000000)(k:b<=1000000):a+b<=16777216:=aL1 (Nat.add_le_add h k) (aLK rfl)
theorem aD1:a<=1000000->b<=1000000->a=c->b=d->c+d<=16777216:=λh k e f=>aDY (e▸h) (f▸k)
theorem aKa:a<=1000000->b<=1000000->a=c->b=d->c+d<=16777217:=λh k e f=>Nat.le_succ_of_le (aD1 h k e f)
theorem aD4:a=b+10->c=b+4->d<c->d<a:=λh q r=>aLL r (aL1 (Nat.le_of_eq q) (aL1 (Nat.add_le_add_left (aLK rfl) b) (Nat.le_of_eq h.symm)))
theorem aKj:a=b+10->c=b+4->d<c->d≠a:=λh q r=>aLT (aD4 h q r)
theorem aD5:a=b+10->c=b+4->a<=d->c<=d:=λh q r=>aL1 (Nat.le_of_eq q) (aL1 (Nat.add_le_add_left (aLK rfl) b) (h▸r))
theorem aHn:a=b+10->a<=c->b+4<=c:=λh r=>aD5 h rfl r
theorem ZI:a<100000->(a:Int)<10000000:=λh=>Int.ofNat_lt.mpr (Nat.lt_trans h (aLK rfl))
theorem OI:a<=1000000->a=b->(b:Int)<9223372036854775808:=λh e=>Int.ofNat_lt.mpr (aL0 (e▸h) (aLK rfl))
theorem OM{a:Int}:a.natAbs<1000000->a<10000000:=λh=>Int.lt_of_le_of_lt Int.le_natAbs (Int.ofNat_lt.mpr (Nat.lt_trans h (aLK rfl)))
theorem aAR:a<=b+1+c->a<=b+(c+1):=λh=>aL1 h (Nat.le_of_eq (Nat.add_right_comm b 1 c))
theorem aJ9:(a+b) / 2<=c->¬c=(a+b) / 2->(a+b) / 2<c:=λh q=>Nat.lt_of_le_of_ne h (aMd q)
theorem aKm:a<b->c<a/\a<=d->¬b=c:=λh q=>Nat.ne_of_gt (Nat.lt_trans q.1 h)
theorem aD2:a=b+3->a<=c->d=c+1->b<=d:=λh q r=>aL1 (aL1 (aLY b 3) (h▸q)) (r▸aLV c)
theorem aKh:a=b+3->a<=c->d=c+1->b<=d+1:=λh q r=>Nat.le_succ_of_le (aD2 h q r)
theorem aKg:a=b+3->a<=c->d=c->¬b=d:=λh q r=>aLT (aLL (aLZ (Nat.succ_pos 2)) (r▸h▸q))
theorem aKt:a=b+3->a<=c->d=c->e<b->¬e=d:=λh q r s=>aLT (aLL s (r▸aL1 (aLY b 3) (h▸q)))
theorem aHu:a<b->c<a->c=b->False:=λh q r=>Nat.lt_irrefl _ (Nat.lt_trans h (r▸q))
theorem aFm:a<=b->¬a<b->a=b:=λh q=>Nat.le_antisymm h (Nat.le_of_not_lt q)
theorem aAK:a*b<100000->¬a*b>16777216:=λh=>Nat.not_lt_of_le (aL1 (aL3 h) (aLK rfl))
theorem aEJ:a<100000->¬a>16777216:=λh=>Nat.not_lt_of_le (aL1 (aL3 h) (aLK rfl))
theorem OJ:a<b+1->¬a=b->a<b:=λh q=>Nat.lt_of_le_of_ne (Nat.le_of_lt_succ h) q
theorem aFV:a<b->b<2->a=0:=λh q=>Nat.eq_zero_of_le_zero (Nat.le_of_lt_succ (aLL h (Nat.le_of_lt_succ q)))
theorem aD0:a+(b+1)<=c->a+1+b<=c:=λh=>aL1 (Nat.le_of_eq (Nat.add_right_comm a 1 b)) h
theorem ZD:¬(a:Int)<1->0<(a:Int):=λh=>Int.lt_of_lt_of_le (by decide) (Int.not_lt.mp h)
theorem aFk:¬a<b->a≠b->b<a:=λh q=>Nat.lt_of_le_of_ne (Nat.le_of_not_lt h) (aMd q)
theorem aFQ:a<b->¬b<1:=λh q=>Nat.not_lt_zero a (aLL h (Nat.le_of_lt_succ q))
theorem aE0:1<=a->¬a>1->a=1:=λh q=>Nat.le_antisymm (Nat.le_of_not_lt q) h
theorem aGr:a+4<=b->a+2≠b:=λh=>aLT (aLL (Nat.add_lt_add_left (aLK rfl:2<4) a) h)
theorem aEi:a>=100->a<10->Bool.true=Bool.false:=λh q=>absurd (aL0 h q) (Nat.not_lt_of_le (aLK rfl))
theorem aEh:a>=100->a<100->Bool.true=Bool.false:=λh q=>absurd (aL0 h q) (Nat.lt_irrefl _)
theorem aFa:(a:Int)<1->a=0:=λh=>Nat.eq_zero_of_le_zero (Nat.le_of_lt_succ (Int.ofNat_lt.mp h))
theorem aGZ:1+1<=a->a<=b->1<=b:=λh q=>aL1 (Nat.le_of_succ_le h) q
theorem aHi:a=b+3->c<a->c≠b+4:=λh q=>aLT (Nat.lt_trans (h▸q) (Nat.lt_succ_self _))
theorem aJR:a<b+(c+1)->a<b+1+c:=λh=>aLL h (Nat.le_of_eq (Nat.add_right_comm b c 1))
theorem aJQ:a<b+1+c->a<b+(c+1):=λh=>aLL h (Nat.le_of_eq (Nat.add_right_comm b 1 c))
theorem VU:a=b+1->c=b+2->d=c->e=d->a<e:=λh q r s=>aLL (h▸Nat.lt_succ_self (b+1)) (Nat.le_of_eq (s.trans (r.trans q)).symm)
theorem aKz:a=b+1->c=b+2->d=c->e=d->a≠e:=λh q r s=>aLT (VU h q r s)
theorem aKy:a=b+1->c=b+2->d=c->e=d->e≠a:=λh q r s=>Nat.ne_of_gt (VU h q r s)
theorem aKF:a=b+1->c=b+2->d=c->e=d->f=e+1->a<f:=λh q r s t=>t▸Nat.lt_succ_of_lt (VU h q r s)
theorem aAC:a<b+2->¬a=b+4:=λh=>aLT (aLL h (Nat.add_le_add_left (aLK rfl) b))
theorem aJ0:a+4<=b->c<a+2->c≠b:=λh q=>aLT (aLL q (aL1 (Nat.add_le_add_left (aLK rfl) a) h))
theorem aJ1:a+3<=b->c<a+2->c≠b:=λh q=>aLT (aLL q (aL1 (Nat.add_le_add_left (aLK rfl) a) h))
theorem YY{a:Int}(h:a.natAbs<1000000): -10000000<a:=Int.neg_lt_of_neg_lt (Int.lt_of_le_of_lt Int.le_natAbs (Int.lt_trans (Int.ofNat_lt.mpr ((Int.natAbs_neg a).symm▸h)) (by decide)))
theorem aKO{a:Int}:a.natAbs<1000000->-10000000<a+(-1+1):=λh=>Int.lt_of_lt_of_le (YY h) (Int.le_of_eq (Int.add_zero a).symm)
theorem aKN{a:Int}:a.natAbs<1000000->-10000000<a+(1-1):=λh=>Int.lt_of_lt_of_le (YY h) (Int.le_of_eq (Int.add_zero a).symm)
theorem aKK{a:Int}:a.natAbs<1000000->a+(1-1)<10000000:=λh=>Int.lt_of_le_of_lt (Int.le_of_eq (Int.add_zero a)) (OM h)
theorem aGo:a+5<b->a+2<b:=λh=>Nat.lt_trans (Nat.add_lt_add_left (aLK rfl:2<5) a) h
theorem aFu:a<=1000000->b<=a+1->b<=16777216:=λh q=>aL1 q (aL1 (Nat.succ_le_succ h) (aLK rfl))
theorem aEg:¬(a:Int)+1=0:=λh=>Nat.succ_ne_zero a (Int.ofNat_inj.mp h)
theorem aAf:a<=b->¬b=a->a+1<=b:=λh q=>Nat.lt_of_le_of_ne h (aMd q)
theorem aKv:a=b+2->c=a->d=c->e=d+1->b<e:=λh q r s=>aLL (aLZ (Nat.succ_pos 2):b<b+3) (Nat.le_of_eq (s.trans (congrArg Nat.succ (r.trans (q.trans h)))).symm)
theorem aD3:a=b+2->c=a->d=c->b<d:=λh q r=>aLL (aLZ (Nat.succ_pos 1):b<b+2) (Nat.le_of_eq (r.trans (q.trans h)).symm)
theorem aKi:a=b+2->c=a->d=c->b≠d:=λh q r=>aLT (aD3 h q r)
theorem OO:a+1<=b->a-1<b:=λh=>aL0 (Nat.sub_le a 1) h
theorem aEv:a>1->a-1<a:=λh=>Nat.pred_lt (Nat.ne_zero_of_lt h)
theorem aE9:(a:Int)=1->a=1:=λh=>Int.ofNat_inj.mp h
theorem qV:a<b->b-(a+1)<b:=λh=>Nat.sub_lt (Nat.zero_lt_of_lt h) (Nat.succ_pos _)
theorem aAP:(a:Int)>(2 ^ 63-1) / (b:Int)->(a:Int)<=(2 ^ 63-1) / (b:Int)->False:=λh q=>Int.not_le_of_gt h q
theorem aHe:a=b+c->(a:Int)-(c:Int)=(b:Int):=λh=>h▸Int.add_sub_cancel (b:Int) (c:Int)
theorem aFg:¬a<b->¬a=b->¬a<b+1:=λh q r=>q (Nat.le_antisymm (Nat.le_of_lt_succ r) (Nat.le_of_not_lt h))
theorem ZP:a+4≠0:=Nat.succ_ne_zero _
theorem ZR:a+3-(a+2)=1:=Nat.add_sub_add_left a 3 2
theorem aKc:a=b->c=b->d<a->d<c:=λh q r=>aLL r (Nat.le_of_eq (h.trans q.symm))
theorem ZG:a<=1000000->¬(a:Int)>=2 ^ 63:=λh q=>Nat.not_le_of_lt (aL0 h (aLK rfl:_<2 ^ 63)) (Int.ofNat_le.mp q)
theorem aAe:¬a<b+2->a=b+2+(a-(b+2)):=λh=>(Nat.add_sub_cancel' (Nat.le_of_not_lt h)).symm
theorem aFi:¬a<b->¬a+1<b+1:=λh q=>h (Nat.lt_of_succ_lt_succ q)
theorem aG2:(a:Int)-(b:Int)-1=(a:Int)-((b:Int)+1):=Int.sub_sub _ _ _
theorem aKQ{a b:Int}:a+b+b*(c:Int)=a+(b*(c:Int)+b):=(Int.add_right_comm a b _).trans (Int.add_assoc a _ b)
theorem aEq:∀{a:Nat},a<=100->301+1+3*a<990:=λh=>aL0 (Nat.add_le_add_left (Nat.mul_le_mul_left 3 h) _) (aLK rfl)
theorem aEH:∀{a:Nat},a<2->0<a->a=1:=λh q=>Nat.le_antisymm (Nat.le_of_lt_succ h) q
theorem aFw:a<=1000000->(a+1)*b<=(a+1)*2->a+(a+1)*b<=16777216:=λh q=>aL1 (Nat.add_le_add h (aL1 q (Nat.mul_le_mul_right 2 (Nat.succ_le_succ h)))) (aLK rfl)
theorem aKC:a+b*c<=d+c->e+a+(b*c+c)<=e+(c+d)+c:=λh=>aL1 (Nat.le_of_eq ((Nat.add_assoc e a _).trans (congrArg (e + ·) (Nat.add_assoc a _ c).symm))) (aL1 (Nat.add_le_add_left (Nat.add_le_add_right h c) e) (Nat.le_of_eq ((congrArg (λx=>e+(x+c)) (Nat.add_comm d c)).trans (Nat.add_assoc e _ c).symm)))
theorem aKs:a+1<=b+1->c=d+1+b->a+1+1<=c+1:=λh q=>Nat.succ_le_succ (q▸aL1 h (aL1 (Nat.le_of_eq (Nat.add_comm b 1)) (Nat.add_le_add_right (Nat.le_add_left 1 d) b)))
theorem aGA:a+2+b<a+4->b=0\/b=1:=λh=>(Nat.le_one_iff_eq_zero_or_eq_one).mp (Nat.le_of_lt_succ (Nat.lt_of_add_lt_add_left (aL0 (Nat.le_of_eq (Nat.add_assoc a 2 b).symm) (aLL h (Nat.le_of_eq (Nat.add_assoc a 2 2))):a+(2+b)<a+(2+2))|>fun(h:2+b<2+2)=>Nat.lt_of_add_lt_add_left h))
theorem oo0: -1<10000000:=by intros;exact Int.natCast_nonneg _
theorem oo1: -10000000 < -1:=by intros;exact Int.natCast_nonneg _
theorem oo2: -10000000<1:=by intros;simp +arith [*]at *
theorem oo3: 0<11:=by intros;exact Nat.succ_pos _
theorem oo4: 0<13:=by intros;exact Nat.succ_pos _
theorem oo5: 0<2:=by intros;exact Nat.succ_pos _
theorem oo6: 0<4:=by intros;exact Nat.succ_pos _
theorem oo7: 0<5:=by intros;exact Nat.succ_pos _
theorem oo9: 1<=1+1:=by intros;exact Nat.succ_pos _
theorem aKS: 1<=2:=by intros;exact Nat.succ_pos _
theorem aKR{a b:Int}:a+b*(c:Int)+b=a+(b*(c:Int)+b):=by intros;simp +arith [*]at *
theorem aKL{a:Int}:a.natAbs<1000000->a+(-1+1)<10000000:=by intros;grind
theorem aKE:a=b+2->c=a->d=c->e=d+1->e<=f->b<=f:=by intros;subst_vars;exact aL3 (aL0 (aLY _ _) ‹_›)
theorem aKx:a=b+2->c=a->d=c->e<b->e<d:=by intros;subst_vars;exact Nat.le_add_right_of_le ‹_›
theorem aKw:a=b+2->c=a->d=c->e<b->e≠d:=by intros;subst_vars;exact aLT (aLL ‹_› (aLY _ _))
theorem aCl:a<700->b=a+2->c=b->d=c->d<1000:=by intros;subst_vars;exact aLL (aLR ‹_› _) (aLK rfl)
theorem aKf:a=b->a=c->b=d->c=d:=by intros;subst_vars;rfl
theorem yX:a+(b+1)=c->a+1+b=c:=by intros;subst_vars;exact Nat.add_right_comm _ _ _
theorem uY:a+(b+1)=c->a<c:=by intros;subst_vars;exact aLZ (aLK rfl)
theorem aCj:a+(b+1)<=c->a<c:=by intros;exact aL0 (aLY _ _) ‹_›
theorem aJ5:a+2+b<a+2+c->b<c:=by intros;simp_all
theorem aJ4:a+2<b->c<a+2->c<b:=by intros;exact Nat.lt_trans ‹_› ‹_›
theorem aJ2:a+2<=b->c<a+2->c<b:=by intros;exact aLL ‹_› ‹_›
theorem aJV:a<100000->b=c->b<=a->c<=16777216:=by intros;subst_vars;exact aL1 ‹_› (aL3 (aLL ‹_› (aLK rfl)))
theorem aJS:a<20->b=a->c<=b+1->c<1000:=by intros;subst_vars;exact aL0 ‹_› (aLL (aLR ‹_› _) (aLK rfl))
theorem aJO:a<b->a=c->¬b=c:=by intros;subst_vars;exact Nat.ne_of_gt ‹_›
theorem aDX:a<b->b+1<=c->a<c:=by intros;exact Nat.lt_trans ‹_› ‹_›
theorem aHz:a<b->b<c->a<c:=by intros;exact Nat.lt_trans ‹_› ‹_›
theorem aHx:a<b->b=100000->a=c->c<=16777216:=by intros;subst_vars;exact aL3 (aLL ‹_› (aLK rfl))
theorem aAW:a<b->b=c->a<c:=by intros;simp_all
theorem OU:a<b->c<a->c<b:=by intros;exact Nat.lt_trans ‹_› ‹_›
theorem OT:a<b->c=b+2->a<c:=by intros;subst_vars;exact Nat.le_add_right_of_le ‹_›
theorem aHt:a<b->c=b+2->a≠c:=by intros;subst_vars;exact aLT (aLL ‹_› (aLY _ _))
theorem aHs:a<b->c=b+3->a<c:=by intros;subst_vars;exact Nat.le_add_right_of_le ‹_›
theorem aHr:a<b->c=b->¬a=c:=by intros;subst_vars;exact aLT ‹_›
theorem aHq:a=b+1+c->b<=a:=by intros;simp +arith [*]at *
theorem aHp:a=b+1->c<b->c<a:=by intros;subst_vars;exact Nat.lt_succ_of_lt ‹_›
theorem aAU:a=b+1->c<b->c≠a:=by intros;subst_vars;exact aLT (aLL ‹_› (aLY _ _))
theorem aHo:a=b+1->c<b->¬c=a:=by intros;subst_vars;exact aLT (aLL ‹_› (aLY _ _))
theorem aAT:a=b+2+1->c<b+2->c<a:=by intros;subst_vars;exact Nat.lt_succ_of_lt ‹_›
theorem aHm:a=b+2+2->c<b+2->c<a:=by intros;subst_vars;exact Nat.le_add_right_of_le ‹_›
theorem aHl:a=b+2->c<b->c<a:=by intros;subst_vars;exact Nat.le_add_right_of_le ‹_›
theorem aAS:a=b+2->c<b->c≠a:=by intros;subst_vars;exact aLT (aLL ‹_› (aLY _ _))
theorem aHk:a=b+2->c=b+3->a<c:=by intros;simp +arith [*]at *
theorem aHj:a=b+3->a<=c->b<=c:=by intros;subst_vars;exact aL1 (aLY _ _) ‹_›
theorem aHh:a=b+3->c<b->c<a:=by intros;subst_vars;exact Nat.le_add_right_of_le ‹_›
theorem aHg:a=b+4->c<a->c<b+4:=by intros;simp_all
theorem aHf:a=b+9->c=b+10->a<c:=by intros;simp +arith [*]at *
theorem IJ:a=b->c<a->c<b:=by intros;simp_all
theorem xF:a=b->c<b->c<a:=by intros;subst_vars;omega
theorem aHd:a=b->c=a->c=b:=by intros;subst_vars;rfl
theorem aHc:a=b->c=b->c=a:=by intros;subst_vars;rfl
theorem aHa:a<=b->(c+a) / 2<a->(c+a) / 2<b:=by intros;exact aLL ‹_› ‹_›
theorem aAQ:a<=b->b<=c->a<=c:=by intros;exact aL1 ‹_› ‹_›
theorem aG5:a>=b->a<=c->b<=c:=by intros;exact aL1 ‹_› ‹_›
theorem aG3:(a+b) / 2<b->(a+b) / 2+1<=b:=by intros;assumption
theorem aG1:(a||| b)+0=a+b->a+b=a||| b:=by intros;exact Eq.symm ‹_›
theorem aG0:0<a->b=0->b+1<=a:=by intros;subst_vars;assumption
theorem aGW:2<=a->b=a->0<b:=by intros;subst_vars;exact aL3 ‹_›
theorem aGV:45<=a/\a<100->b=a+10->b<700:=by intros;(try obtain⟨_,_⟩:=‹_/\_›);subst_vars;exact aLL (aLR ‹_› _) (aLK rfl)
theorem aGU:45<=a/\a<100->b=a+10->b<900:=by intros;(try obtain⟨_,_⟩:=‹_/\_›);subst_vars;exact aLL (aLR ‹_› _) (aLK rfl)
theorem aGT:45<=a/\a<100->b=a+2+1->b<900:=by intros;(try obtain⟨_,_⟩:=‹_/\_›);subst_vars;exact aL3 (aLL (aLR ‹_› _) (aLK rfl))
theorem IH:45<=a/\a<100->b=a+3->b<1000:=by intros;(try obtain⟨_,_⟩:=‹_/\_›);subst_vars;exact aLL (aLR ‹_› _) (aLK rfl)
theorem aGS:45<=a/\a<100->b=a+3->b<900:=by intros;(try obtain⟨_,_⟩:=‹_/\_›);subst_vars;exact aLL (aLR ‹_› _) (aLK rfl)
theorem aAN:45<=a/\a<100->b=a+4->b<1000:=by intros;(try obtain⟨_,_⟩:=‹_/\_›);subst_vars;exact aLL (aLR ‹_› _) (aLK rfl)
theorem aGR:45<=a/\a<100->b=a+4->b<900:=by intros;(try obtain⟨_,_⟩:=‹_/\_›);subst_vars;exact aLL (aLR ‹_› _) (aLK rfl)
theorem aAM:45<=a/\a<100->b=a+9->b<1000:=by intros;(try obtain⟨_,_⟩:=‹_/\_›);subst_vars;exact aLL (aLR ‹_› _) (aLK rfl)
theorem aGQ:45<=a/\a<100->b=a+9->b<900:=by intros;(try obtain⟨_,_⟩:=‹_/\_›);subst_vars;exact aLL (aLR ‹_› _) (aLK rfl)
theorem aAI:a+(b+1)<1000->a<1000:=by intros;exact aL0 (aLY _ _) ‹_›
theorem aGK:a+(b+1)<500->a<500:=by intros;exact aL0 (aLY _ _) ‹_›
theorem aGJ:a+(b+1)=a+1+b:=by intros;simp +arith [*]at *
theorem aGI:a+(b+1)=a.succ+b:=by intros;simp +arith [*]at *
theorem OQ:a+0=b->a=b:=by intros;omega
theorem BD:a+0=b->b=a:=by intros;exact Eq.symm ‹_›
theorem qZ:a+0=b->b<=a:=by intros;subst_vars;exact aLO _
theorem aGG:a+1+b+1=a+2+b:=by intros;exact Nat.add_right_comm _ _ _
theorem OP:a+1+b=a+(b+1):=by intros;exact Nat.add_right_comm _ _ _
theorem BC:a+1<=b->a<b:=by intros;assumption
theorem nT:a+1<=b->a<=b:=by intros;exact aL3 ‹_›
theorem aGD:a+2*(b+1)<900->a<900:=by intros;exact aL0 (aLY _ _) ‹_›
theorem aGC:a+2+2<=b->a+3<=b:=by intros;exact aL3 ‹_›
theorem aGB:a+2+b-(a+2)=b:=by intros;simp_all
theorem aGz:a+2<b->a+2<b:=by intros;omega
theorem aGy:a+2<b->a+2≠b:=by intros;exact aLT ‹_›
theorem qY:a+2<b->a<b:=by intros;exact aL0 (aLY _ _) ‹_›
theorem aGx:a+2<=a+2+b:=by intros;exact aLY _ _
theorem aGw:a+2<=b->¬b<a+2:=by intros;simp_all
theorem aGu:a+3<=b->a+2≠b:=by intros;exact aLT ‹_›
theorem aGt:a+3<=b->a+2<=b:=by intros;exact aL3 ‹_›
theorem aGs:a+3<=b->¬a+2=b:=by intros;exact aLT ‹_›
theorem aGq:a+4<=b->a+3≠b:=by intros;exact aLT ‹_›
theorem qX:a+5<b->a<b:=by intros;exact aL0 (aLY _ _) ‹_›
theorem aGn:a+b*a=b*a+a:=by intros;exact Nat.add_comm _ _
theorem aGm:a-b<=a:=by intros;exact Nat.sub_le _ _
theorem aGj:a<100->b=a+13->b<1000:=by intros;subst_vars;exact aLL (aLR ‹_› _) (aLK rfl)
theorem aGi:a<100->b=a+4->b<1000:=by intros;subst_vars;exact aLL (aLR ‹_› _) (aLK rfl)
theorem aGh:a<1000->b=a->b<=16777216:=by intros;subst_vars;exact aL3 (aLL ‹_› (aLK rfl))
theorem aGg:a<1000->b<=a+1->b<=1000000:=by intros;exact aL1 ‹_› (aL1 ‹_› (aLK rfl))
theorem aGf:a<100000->b<a->b<100000:=by intros;exact Nat.lt_trans ‹_› ‹_›
theorem aGe:a<20->b=a->b<1000:=by intros;subst_vars;exact aLL ‹_› (aLK rfl)
theorem aGd:a<20->b<=a+2->b<100000:=by intros;exact aL0 ‹_› (aLL (aLR ‹_› _) (aLK rfl))
theorem aGc:a<20->b<=a+2->b<64:=by intros;exact aL0 ‹_› (aLL (aLR ‹_› _) (aLK rfl))
theorem aGb:a<20->b<=a->b+1<1000:=by intros;exact aL0 (Nat.add_le_add_right ‹_› _) (aLL (aLR ‹_› _) (aLK rfl))
theorem aGa:a<20->b<=a->b<1000:=by intros;exact aL0 ‹_› (aLL ‹_› (aLK rfl))
theorem aF9:a<20->b<=a->b<100000:=by intros;exact aL0 ‹_› (aLL ‹_› (aLK rfl))
theorem aF8:a<64->b=a->b<64:=by intros;subst_vars;omega
theorem qW:a<700->b=a+1->b<1000:=by intros;subst_vars;exact aLL (aLR ‹_› _) (aLK rfl)
theorem aF7:a<700->b=a+1->b<900:=by intros;subst_vars;exact aLL (aLR ‹_› _) (aLK rfl)
theorem xE:a<700->b=a+2->b<1000:=by intros;subst_vars;exact aLL (aLR ‹_› _) (aLK rfl)
theorem aAF:a<900->b<a->b<1000:=by intros;exact aL1 ‹_› (aL3 (aLL ‹_› (aLK rfl)))
theorem OL:a<900->b=a+1->b<1000:=by intros;subst_vars;exact aLL (aLR ‹_› _) (aLK rfl)
theorem aAE:a<900->b=a->b<1000:=by intros;subst_vars;exact aLL ‹_› (aLK rfl)
theorem aF6:a<b+1->a<=b:=by intros;exact Nat.le_of_lt_succ ‹_›
theorem aAD:a<b+2->a<b+1+1:=by intros;omega
theorem aF5:a<b+2->a<b+2+1:=by intros;exact Nat.lt_succ_of_lt ‹_›
theorem aF4:a<b+2->a≠b+2:=by intros;exact aLT ‹_›
theorem aF3:a<b->(a:Int)<(b:Int):=by intros;simp +arith [*]at *
theorem aF2:a<b->0<(b:Int)-(a:Int):=by intros;simp +arith [*]at *
theorem aAB:a<b->a+1<b+1:=by intros;exact aLR ‹_› _
theorem aF0:a<b->a+1<=b:=by intros;assumption
theorem aFY:a<b->a<b:=by intros;omega
theorem IG:a<b->a<b+1:=by intros;exact Nat.lt_succ_of_lt ‹_›
theorem aFX:a<b->a=b->False:=by intros;subst_vars;simp +arith [*]at *
theorem aAA:a<b->a≠b:=by intros;exact aLT ‹_›
theorem aAz:a<b->a≠b+3:=by intros;exact aLT (aLL ‹_› (aLY _ _))
theorem aFW:a<b->a<=b:=by intros;exact aL3 ‹_›
theorem aFU:a<b->b<900->a<900:=by intros;exact Nat.lt_trans ‹_› ‹_›
theorem aFT:a<b->b=100000->a<=1000000:=by intros;subst_vars;exact aL3 (aLL ‹_› (aLK rfl))
theorem aFS:a<b->b=100000->a<=16777216:=by intros;subst_vars;exact aL3 (aLL ‹_› (aLK rfl))
theorem aAw:a<b->b≠a:=by intros;exact Nat.ne_of_gt ‹_›
theorem aFR:a<b->b<=1000000->(a:Int)<2 ^ 63:=by intros;lia
theorem qU:a<b->¬a=b:=by intros;exact aLT ‹_›
theorem IF:a<b->¬a=b+1:=by intros;exact aLT (aLL ‹_› (aLY _ _))
theorem aAv:a<b->¬a=b+2:=by intros;exact aLT (aLL ‹_› (aLY _ _))
theorem aFP:a=0->b=0->b=a:=by intros;subst_vars;rfl
theorem aFO:a=0->¬b=0->¬b=a:=by intros;subst_vars;omega
theorem aAt:a=b+1->a≠b:=by intros;subst_vars;exact Nat.ne_of_gt (aLZ (aLK rfl))
theorem aAs:a=b+1->b<a:=by intros;subst_vars;exact aLO _
theorem aFN:a=b+1->b≠a:=by intros;subst_vars;exact aLT (aLZ (aLK rfl))
theorem aFM:a=b+1->b<=a:=by intros;subst_vars;exact aLY _ _
theorem aAr:a=b+1->¬a=b:=by intros;subst_vars;exact Nat.ne_of_gt (aLZ (aLK rfl))
theorem aFL:a=b+1->¬b=a:=by intros;subst_vars;exact aLT (aLZ (aLK rfl))
theorem aFK:a=b+10->b+2<a:=by intros;subst_vars;exact Nat.add_lt_add_left (aLK rfl) _
theorem aAq:a=b+2+1->b+2<a:=by intros;simp +arith [*]at *
theorem aFJ:a=b+2+2->b+2<a:=by intros;subst_vars;exact aLZ (aLK rfl)
theorem aFI:a=b+2+2->b+3<a:=by intros;simp +arith [*]at *
theorem aFH:a=b+2->a≠b+3:=by intros;subst_vars;exact aLT (Nat.add_lt_add_left (aLK rfl) _)
theorem aFG:a=b+2->b<a:=by intros;subst_vars;exact aLZ (aLK rfl)
theorem aAp:a=b+2->b≠a:=by intros;subst_vars;exact aLT (aLZ (aLK rfl))
theorem aFF:a=b+2->¬a=b:=by intros;subst_vars;exact Nat.ne_of_gt (aLZ (aLK rfl))
theorem aFE:a=b+3->0<a:=by intros;subst_vars;exact Nat.succ_pos _
theorem aAo:a=b+3->b+2<a:=by intros;simp +arith [*]at *
theorem aFD:a=b+3->b<a:=by intros;subst_vars;exact aLZ (aLK rfl)
theorem aAn:a=b+4->b+2<a:=by intros;subst_vars;exact Nat.add_lt_add_left (aLK rfl) _
theorem aFC:a=b->a / 2-1=b / 2-1:=by intros;subst_vars;rfl
theorem aFB:a=b->a / 2=b / 2:=by intros;subst_vars;rfl
theorem aFA:a=b->a<2->b<=16777216+1:=by intros;subst_vars;exact aL3 (aLL ‹_› (aLK rfl))
theorem aAm:a=b->a<64->b<64:=by intros;subst_vars;omega
theorem aAl:a=b->b<=a:=by intros;subst_vars;exact aLO _
theorem aAk:a=b->¬a<2->2<=b:=by intros;subst_vars;exact Nat.le_of_not_lt ‹_›
theorem aFy:a=b->¬a>b:=by intros;subst_vars;exact Nat.lt_irrefl _
theorem IE:a≠b->¬a=b:=by intros;omega
theorem aFx:a<=100->b<a->b<100:=by intros;exact aLL ‹_› ‹_›
theorem aAj:a<=1000000->a=b->b<=1000000:=by intros;subst_vars;omega
theorem OH:a<=1000000->a=b->b<=16777216:=by intros;subst_vars;exact aL1 ‹_› (aLK rfl)
theorem aAi:a<=1000000->b<=1000000->a+b<=16777216:=by intros;lia
theorem aFt:a<=1000000->b<=a->b<=1000000:=by intros;exact aL1 ‹_› ‹_›
theorem aAh:a<=a+(b+1):=by intros;exact aLY _ _
theorem aFs:a<=a+b:=by intros;exact aLY _ _
theorem aFr:a<=b+1->a<=b+1:=by intros;omega
theorem aFq:a<=b+1->a>=b+1->a=b+1:=by intros;exact Nat.le_antisymm ‹_› ‹_›
theorem aAg:a<=b+1->b<a->a=b+1:=by intros;exact Nat.le_antisymm ‹_› ‹_›
theorem aFp:a<=b->a+1<=b+1:=by intros;simp +arith [*]at *
theorem aFo:a<=b->a<=b:=by intros;omega
theorem xD:a<=b->¬b<a:=by intros;simp +arith [*]at *
theorem ID:¬a<b+2->b+2<=a:=by intros;exact Nat.le_of_not_lt ‹_›
theorem aFj:¬a<b->b<=a:=by intros;exact Nat.le_of_not_lt ‹_›
theorem IC:(-Int.negSucc a-1).toNat=a:=by intros;simp +arith [*]at *
theorem aFb:(a:Int)-(a:Int)<=0:=by intros;simp +arith [*]at *
theorem aAd: -10000000<(a:Int):=by intros;exact Int.natCast_nonneg _
theorem aE8: -2 ^ 63<=(a:Int):=by intros;simp +arith [*]at *
theorem aE7: -Int.negSucc a-1=(a:Int):=by intros;simp +arith [*]at *
theorem OG:0+a=a:=by intros;exact Nat.add_comm _ _
theorem aAc:0<a+1:=by intros;exact Nat.succ_pos _
theorem qT:0<a+2:=by intros;exact Nat.succ_pos _
theorem aAb:0<a+2+1:=by intros;exact Nat.succ_pos _
theorem IB:0<a+2+2:=by intros;exact Nat.succ_pos _
theorem aAa:0<a->0<(a:Int):=by intros;simp +arith [*]at *
theorem aE6:0<a->a=0->False:=by intros;simp +arith [*]at *
theorem aE5:0<a->¬0=a:=by intros;exact aLT ‹_›
theorem BB:0<=(a:Int):=by intros;exact Int.natCast_nonneg _
theorem ZZ:1+1<=a->1<=a:=by intros;exact aL3 ‹_›
theorem ZY:1<a+2:=by intros;exact Nat.le_add_left _ _
theorem ZX:1<=a+1:=by intros;exact Nat.succ_pos _
theorem aE3:1<=a->0<a:=by intros;assumption
theorem aE2:1<=a->1+(a-1)<=a:=by intros;simp +arith [*]at *
theorem aEZ:41<a+2->40<a+2:=by intros;exact aL3 ‹_›
theorem aEX:45<=a/\a<100->a+2+2<700:=by intros;(try obtain⟨_,_⟩:=‹_/\_›);subst_vars;exact aL3 (aLL (aLR ‹_› _) (aLK rfl))
theorem xC:45<=a/\a<100->a+4<1000:=by intros;(try obtain⟨_,_⟩:=‹_/\_›);subst_vars;exact aLL (aLR ‹_› _) (aLK rfl)
theorem ZW:45<=a/\a<100->a+4<900:=by intros;(try obtain⟨_,_⟩:=‹_/\_›);subst_vars;exact aLL (aLR ‹_› _) (aLK rfl)
theorem aEb:6<=a->a-6+6=a:=by intros;exact Nat.sub_add_cancel ‹_›
theorem aEV:Int.negSucc a = -(a:Int)-1:=by intros;lia
theorem OF:a+1<a+2:=by intros;exact aLO _
theorem aEU:a+1<a+2+2:=by intros;exact aLY _ _
theorem aET:a+1<=a+1+1+1:=by intros;simp +arith [*]at *
theorem ZV:a+12=a+4+8:=by intros;rfl
theorem ZU:a+2<a+2+1:=by intros;exact aLO _
theorem BA:a+2<a+2+2:=by intros;exact aLZ (aLK rfl)
theorem nR:a+2<=a+2:=by intros;exact aLO _
theorem ZT:a+2<=a+2+1:=by intros;exact aLY _ _
theorem AZ:a+2<=a+2+2:=by intros;exact aLY _ _
theorem ZS:a+2<=a+3:=by intros;exact Nat.add_le_add_left (aLK rfl) _
theorem ZQ:a+3<a+2+2:=by intros;exact aLO _
theorem aES:a+3<=a+2+1:=by intros;exact aLO _
theorem OE:a+3<=a+3:=by intros;exact aLO _
theorem aER:a+4≠a:=by intros;exact Nat.ne_of_gt (aLZ (aLK rfl))
theorem ZO:a+4<=a+2+2:=by intros;exact aLO _
theorem ZN:a+4<=a+4:=by intros;exact aLO _
theorem aEQ:a-0<=a:=by intros;exact aLO _
theorem aEP:a<100->a+1<100000:=by intros;exact aLL (aLR ‹_› _) (aLK rfl)
theorem ZM:a<100->a<100000:=by intros;exact aLL ‹_› (aLK rfl)
theorem OD:a<100->a<1920:=by intros;exact aLL ‹_› (aLK rfl)
theorem ZL:∀{a:Nat},a<1000->-2 ^ 63<=(a:Int)/\(a:Int)<2 ^ 63:=by decide
theorem ZK:a<1000->a+1<100000:=by intros;exact aLL (aLR ‹_› _) (aLK rfl)
theorem IA:a<1000->a+1<2 ^ 10:=by intros;exact aLL (aLR ‹_› _) (aLK rfl)
theorem aEO:a<1000->a<100000:=by intros;exact aLL ‹_› (aLK rfl)
theorem ZJ:∀{a:Nat},a<1000->¬(a:Int)>=2 ^ 63:=by decide
theorem aEN:∀{a:Nat},a<1000->¬a>(2 ^ 63-1) / 8:=by decide
theorem aEM:∀{a:Nat},a<1000->¬a>16777216:=by decide
theorem aEL:a<100000->a<1000000:=by intros;exact aLL ‹_› (aLK rfl)
theorem AY:a<100000->a<=1000000:=by intros;exact aL3 (aLL ‹_› (aLK rfl))
theorem aEK:a<100000->a<=16777216:=by intros;exact aL3 (aLL ‹_› (aLK rfl))
theorem aEI:a<1000000->a<1073741824:=by intros;exact aLL ‹_› (aLK rfl)
theorem aEa:∀{a:Nat},a<11->a-6<5:=by decide
theorem aEG:a<2->a+1<1000:=by intros;exact aLL (aLR ‹_› _) (aLK rfl)
theorem aEF:∀{a:Nat},a<2->a+1=1\/a+1=2:=by decide
theorem aEE:a<20->a+0+0<30:=by intros;exact aLL ‹_› (aLK rfl)
theorem aED:a<20->a<900:=by intros;exact aLL ‹_› (aLK rfl)
theorem aEC:a<500->a<1000:=by intros;exact aLL ‹_› (aLK rfl)
theorem xB:a<64->a<=16777216:=by intros;exact aL3 (aLL ‹_› (aLK rfl))
theorem aEB:a<64->a<=16777216+1:=by intros;exact aL3 (aLL ‹_› (aLK rfl))
theorem aEA:a<700->a+1<1024:=by intros;exact aLL (aLR ‹_› _) (aLK rfl)
theorem jX:a<700->a<1000:=by intros;exact aLL ‹_› (aLK rfl)
theorem ZH:a<90->a+1<100:=by intros;exact aLL (aLR ‹_› _) (aLK rfl)
theorem AX:a<900->a+1<1000:=by intros;exact aLL (aLR ‹_› _) (aLK rfl)
theorem cS:a<900->a<1000:=by intros;exact aLL ‹_› (aLK rfl)
theorem AW:a<a+1:=by intros;exact aLO _
theorem OC:a<a+2:=by intros;exact aLZ (aLK rfl)
theorem aEz:a=6->a+1<100000:=by intros;subst_vars;exact Nat.le_add_left _ _
theorem aEy:a=6->a<1000:=by intros;subst_vars;exact Nat.le_add_left _ _
theorem aEx:a=6->a<100000:=by intros;subst_vars;exact Nat.le_add_left _ _
theorem aEu:a≠a+3:=by intros;exact aLT (aLZ (aLK rfl))
theorem aEt:a<=0->a=0:=by intros;exact Nat.eq_zero_of_le_zero ‹_›
theorem aEs:a<=1->a<=16777216+1:=by intros;exact aL1 ‹_› (aLK rfl)
theorem aEr:∀{a:Nat},a<=10->1000000*a<=16000000:=by decide
theorem aEp:∀{a:Nat},a<=100->4+3+20*a<9800:=by decide
theorem OB:a<=1000->a<=1000000:=by intros;exact aL1 ‹_› (aLK rfl)
theorem HZ:a<=1000000->a<=16777216:=by intros;exact aL1 ‹_› (aLK rfl)
theorem ZF:a<=2->a<=1000000:=by intros;exact aL1 ‹_› (aLK rfl)
theorem aD9:a<=63->a<=1000000:=by intros;exact aL1 ‹_› (aLK rfl)
theorem aEo:∀{a:Nat},a<=8->a<100:=by decide
theorem aEn:∀{a:Nat},a<=8->a<100000:=by decide
theorem ZE:∀{a:Nat},a<=8->a<20:=by decide
theorem aEm:∀{a:Nat},a<=8->a<500:=by decide
theorem aEl:a<=8->a<=8:=by intros;omega
theorem aEk:a<=999999->a<=16777216:=by intros;exact aL1 ‹_› (aLK rfl)
theorem aEj:a<=a+1:=by intros;exact aLY _ _
theorem OA:a<=a+1+1:=by intros;simp +arith [*]at *
theorem NZ:¬(a:Int) < -2 ^ 63:=by intros;simp_all
theorem HY:¬(a:Int)<0:=by intros;simp_all
theorem aEf:¬a % 2=1->a % 2=0:=by simp
theorem ZC:¬a+2=a+4:=by intros;exact aLT (Nat.add_lt_add_left (aLK rfl) _)
theorem aEe:¬a+3<a+2:=by intros;simp +arith [*]at *
theorem HX:¬a<0:=by intros;simp +arith [*]at *
theorem aEd:¬a<a+0:=by intros;exact Nat.lt_irrefl _
theorem ZB:¬a=a+1:=by intros;exact aLT (aLZ (aLK rfl))
theorem aEc:¬a=a+2:=by intros;exact aLT (aLZ (aLK rfl))
theorem SW{p0 p1 p2 p3:Prop}(h0:p0)(h1:p1)(h2:p2)(h3:p3):p0/\p1/\p2/\p3:=⟨h0,h1,h2,h3⟩
theorem aBt{p0 p1 p2 p3 p4:Prop}(h0:p0)(h1:p1)(h2:p2)(h3:p3)(h4:p4):p0/\p1/\p2/\p3/\p4:=⟨h0,h1,h2,h3,h4⟩
theorem aIK{p0 p1 p2 p3 p4 p5 p6:Prop}(h0:p0)(h1:p1)(h2:p2)(h3:p3)(h4:p4)(h5:p5)(h6:p6):p0/\p1/\p2/\p3/\p4/\p5/\p6:=⟨h0,h1,h2,h3,h4,h5,h6⟩
theorem aIJ{p0 p1 p2 p3 p4 p5 p6 p7 p8:Prop}(h0:p0)(h1:p1)(h2:p2)(h3:p3)(h4:p4)(h5:p5)(h6:p6)(h7:p7)(h8:p8):p0/\p1/\p2/\p3/\p4/\p5/\p6/\p7/\p8:=⟨h0,h1,h2,h3,h4,h5,h6,h7,h8⟩
theorem JJ{A0:Sort _}{p0 p1 p2 p3:A0->Prop}(x0:A0)(h0:p0 x0)(h1:p1 x0)(h2:p2 x0)(h3:p3 x0):∃x0,p0 x0/\p1 x0/\p2 x0/\p3 x0:=⟨x0,h0,h1,h2,h3⟩
theorem aII{A0:Sort _}{p0 p1 p2 p3 p4:A0->Prop}(x0:A0)(h0:p0 x0)(h1:p1 x0)(h2:p2 x0)(h3:p3 x0)(h4:p4 x0):∃x0,p0 x0/\p1 x0/\p2 x0/\p3 x0/\p4 x0:=⟨x0,h0,h1,h2,h3,h4⟩
theorem SV{A0 A1:Sort _}{p0 p1:A0->A1->Prop}(x0:A0)(x1:A1)(h0:p0 x0 x1)(h1:p1 x0 x1):∃x0 x1,p0 x0 x1/\p1 x0 x1:=⟨x0,x1,h0,h1⟩
theorem bM{A0 A1:Sort _}{p0 p1 p2:A0->A1->Prop}(x0:A0)(x1:A1)(h0:p0 x0 x1)(h1:p1 x0 x1)(h2:p2 x0 x1):∃x0 x1,p0 x0 x1/\p1 x0 x1/\p2 x0 x1:=⟨x0,x1,h0,h1,h2⟩
theorem aBs{A0 A1:Sort _}{p0 p1 p2 p3:A0->A1->Prop}(x0:A0)(x1:A1)(h0:p0 x0 x1)(h1:p1 x0 x1)(h2:p2 x0 x1)(h3:p3 x0 x1):∃x0 x1,p0 x0 x1/\p1 x0 x1/\p2 x0 x1/\p3 x0 x1:=⟨x0,x1,h0,h1,h2,h3⟩
theorem SU{A0 A1:Sort _}{p0 p1 p2 p3 p4:A0->A1->Prop}(x0:A0)(x1:A1)(h0:p0 x0 x1)(h1:p1 x0 x1)(h2:p2 x0 x1)(h3:p3 x0 x1)(h4:p4 x0 x1):∃x0 x1,p0 x0 x1/\p1 x0 x1/\p2 x0 x1/\p3 x0 x1/\p4 x0 x1:=⟨x0,x1,h0,h1,h2,h3,h4⟩
theorem aBr{A0 A1:Sort _}{p0 p1 p2 p3 p4 p5:A0->A1->Prop}(x0:A0)(x1:A1)(h0:p0 x0 x1)(h1:p1 x0 x1)(h2:p2 x0 x1)(h3:p3 x0 x1)(h4:p4 x0 x1)(h5:p5 x0 x1):∃x0 x1,p0 x0 x1/\p1 x0 x1/\p2 x0 x1/\p3 x0 x1/\p4 x0 x1/\p5 x0 x1:=⟨x0,x1,h0,h1,h2,h3,h4,h5⟩
theorem aBq{A0 A1 A2:Sort _}{p0:A0->A1->A2->Prop}(x0:A0)(x1:A1)(x2:A2)(h0:p0 x0 x1 x2):∃x0 x1 x2,p0 x0 x1 x2:=⟨x0,x1,x2,h0⟩
theorem aIH{A0 A1 A2:Sort _}{p0 p1:A0->A1->A2->Prop}(x0:A0)(x1:A1)(x2:A2)(h0:p0 x0 x1 x2)(h1:p1 x0 x1 x2):∃x0 x1 x2,p0 x0 x1 x2/\p1 x0 x1 x2:=⟨x0,x1,x2,h0,h1⟩
theorem CW{A0 A1 A2:Sort _}{p0 p1 p2:A0->A1->A2->Prop}(x0:A0)(x1:A1)(x2:A2)(h0:p0 x0 x1 x2)(h1:p1 x0 x1 x2)(h2:p2 x0 x1 x2):∃x0 x1 x2,p0 x0 x1 x2/\p1 x0 x1 x2/\p2 x0 x1 x2:=⟨x0,x1,x2,h0,h1,h2⟩
theorem aBp{A0 A1 A2:Sort _}{p0 p1 p2 p3:A0->A1->A2->Prop}(x0:A0)(x1:A1)(x2:A2)(h0:p0 x0 x1 x2)(h1:p1 x0 x1 x2)(h2:p2 x0 x1 x2)(h3:p3 x0 x1 x2):∃x0 x1 x2,p0 x0 x1 x2/\p1 x0 x1 x2/\p2 x0 x1 x2/\p3 x0 x1 x2:=⟨x0,x1,x2,h0,h1,h2,h3⟩
theorem fH{A0 A1 A2:Sort _}{p0 p1 p2 p3 p4:A0->A1->A2->Prop}(x0:A0)(x1:A1)(x2:A2)(h0:p0 x0 x1 x2)(h1:p1 x0 x1 x2)(h2:p2 x0 x1 x2)(h3:p3 x0 x1 x2)(h4:p4 x0 x1 x2):∃x0 x1 x2,p0 x0 x1 x2/\p1 x0 x1 x2/\p2 x0 x1 x2/\p3 x0 x1 x2/\p4 x0 x1 x2:=⟨x0,x1,x2,h0,h1,h2,h3,h4⟩
theorem aBo{A0 A1 A2:Sort _}{p0 p1 p2 p3 p4 p5:A0->A1->A2->Prop}(x0:A0)(x1:A1)(x2:A2)(h0:p0 x0 x1 x2)(h1:p1 x0 x1 x2)(h2:p2 x0 x1 x2)(h3:p3 x0 x1 x2)(h4:p4 x0 x1 x2)(h5:p5 x0 x1 x2):∃x0 x1 x2,p0 x0 x1 x2/\p1 x0 x1 x2/\p2 x0 x1 x2/\p3 x0 x1 x2/\p4 x0 x1 x2/\p5 x0 x1 x2:=⟨x0,x1,x2,h0,h1,h2,h3,h4,h5⟩
theorem aIG{A0 A1 A2:Sort _}{p0 p1 p2 p3 p4 p5 p6:A0->A1->A2->Prop}(x0:A0)(x1:A1)(x2:A2)(h0:p0 x0 x1 x2)(h1:p1 x0 x1 x2)(h2:p2 x0 x1 x2)(h3:p3 x0 x1 x2)(h4:p4 x0 x1 x2)(h5:p5 x0 x1 x2)(h6:p6 x0 x1 x2):∃x0 x1 x2,p0 x0 x1 x2/\p1 x0 x1 x2/\p2 x0 x1 x2/\p3 x0 x1 x2/\p4 x0 x1 x2/\p5 x0 x1 x2/\p6 x0 x1 x2:=⟨x0,x1,x2,h0,h1,h2,h3,h4,h5,h6⟩
theorem aIF{A0 A1 A2:Sort _}{p0 p1 p2 p3 p4 p5 p6 p7:A0->A1->A2->Prop}(x0:A0)(x1:A1)(x2:A2)(h0:p0 x0 x1 x2)(h1:p1 x0 x1 x2)(h2:p2 x0 x1 x2)(h3:p3 x0 x1 x2)(h4:p4 x0 x1 x2)(h5:p5 x0 x1 x2)(h6:p6 x0 x1 x2)(h7:p7 x0 x1 x2):∃x0 x1 x2,p0 x0 x1 x2/\p1 x0 x1 x2/\p2 x0 x1 x2/\p3 x0 x1 x2/\p4 x0 x1 x2/\p5 x0 x1 x2/\p6 x0 x1 x2/\p7 x0 x1 x2:=⟨x0,x1,x2,h0,h1,h2,h3,h4,h5,h6,h7⟩
theorem aIE{A0 A1 A2 A3:Sort _}{p0 p1:A0->A1->A2->A3->Prop}(x0:A0)(x1:A1)(x2:A2)(x3:A3)(h0:p0 x0 x1 x2 x3)(h1:p1 x0 x1 x2 x3):∃x0 x1 x2 x3,p0 x0 x1 x2 x3/\p1 x0 x1 x2 x3:=⟨x0,x1,x2,x3,h0,h1⟩
theorem aID{A0 A1 A2 A3:Sort _}{p0 p1 p2:A0->A1->A2->A3->Prop}(x0:A0)(x1:A1)(x2:A2)(x3:A3)(h0:p0 x0 x1 x2 x3)(h1:p1 x0 x1 x2 x3)(h2:p2 x0 x1 x2 x3):∃x0 x1 x2 x3,p0 x0 x1 x2 x3/\p1 x0 x1 x2 x3/\p2 x0 x1 x2 x3:=⟨x0,x1,x2,x3,h0,h1,h2⟩
theorem aIC{A0 A1 A2 A3:Sort _}{p0 p1 p2 p3:A0->A1->A2->A3->Prop}(x0:A0)(x1:A1)(x2:A2)(x3:A3)(h0:p0 x0 x1 x2 x3)(h1:p1 x0 x1 x2 x3)(h2:p2 x0 x1 x2 x3)(h3:p3 x0 x1 x2 x3):∃x0 x1 x2 x3,p0 x0 x1 x2 x3/\p1 x0 x1 x2 x3/\p2 x0 x1 x2 x3/\p3 x0 x1 x2 x3:=⟨x0,x1,x2,x3,h0,h1,h2,h3⟩
theorem tY{A0 A1 A2 A3:Sort _}{p0 p1 p2 p3 p4:A0->A1->A2->A3->Prop}(x0:A0)(x1:A1)(x2:A2)(x3:A3)(h0:p0 x0 x1 x2 x3)(h1:p1 x0 x1 x2 x3)(h2:p2 x0 x1 x2 x3)(h3:p3 x0 x1 x2 x3)(h4:p4 x0 x1 x2 x3):∃x0 x1 x2 x3,p0 x0 x1 x2 x3/\p1 x0 x1 x2 x3/\p2 x0 x1 x2 x3/\p3 x0 x1 x2 x3/\p4 x0 x1 x2 x3:=⟨x0,x1,x2,x3,h0,h1,h2,h3,h4⟩
theorem aBn{A0 A1 A2 A3 A4:Sort _}{p0 p1:A0->A1->A2->A3->A4->Prop}(x0:A0)(x1:A1)(x2:A2)(x3:A3)(x4:A4)(h0:p0 x0 x1 x2 x3 x4)(h1:p1 x0 x1 x2 x3 x4):∃x0 x1 x2 x3 x4,p0 x0 x1 x2 x3 x4/\p1 x0 x1 x2 x3 x4:=⟨x0,x1,x2,x3,x4,h0,h1⟩
theorem aIB{A0 A1 A2 A3 A4:Sort _}{p0 p1 p2:A0->A1->A2->A3->A4->Prop}(x0:A0)(x1:A1)(x2:A2)(x3:A3)(x4:A4)(h0:p0 x0 x1 x2 x3 x4)(h1:p1 x0 x1 x2 x3 x4)(h2:p2 x0 x1 x2 x3 x4):∃x0 x1 x2 x3 x4,p0 x0 x1 x2 x3 x4/\p1 x0 x1 x2 x3 x4/\p2 x0 x1 x2 x3 x4:=⟨x0,x1,x2,x3,x4,h0,h1,h2⟩
theorem aIA{A0 A1 A2 A3 A4:Sort _}{p0 p1 p2 p3 p4 p5 p6 p7:A0->A1->A2->A3->A4->Prop}(x0:A0)(x1:A1)(x2:A2)(x3:A3)(x4:A4)(h0:p0 x0 x1 x2 x3 x4)(h1:p1 x0 x1 x2 x3 x4)(h2:p2 x0 x1 x2 x3 x4)(h3:p3 x0 x1 x2 x3 x4)(h4:p4 x0 x1 x2 x3 x4)(h5:p5 x0 x1 x2 x3 x4)(h6:p6 x0 x1 x2 x3 x4)(h7:p7 x0 x1 x2 x3 x4):∃x0 x1 x2 x3 x4,p0 x0 x1 x2 x3 x4/\p1 x0 x1 x2 x3 x4/\p2 x0 x1 x2 x3 x4/\p3 x0 x1 x2 x3 x4/\p4 x0 x1 x2 x3 x4/\p5 x0 x1 x2 x3 x4/\p6 x0 x1 x2 x3 x4/\p7 x0 x1 x2 x3 x4:=⟨x0,x1,x2,x3,x4,h0,h1,h2,h3,h4,h5,h6,h7⟩
theorem aIz{A0 A1 A2 A3 A4 A5:Sort _}{p0 p1 p2 p3 p4:A0->A1->A2->A3->A4->A5->Prop}(x0:A0)(x1:A1)(x2:A2)(x3:A3)(x4:A4)(x5:A5)(h0:p0 x0 x1 x2 x3 x4 x5)(h1:p1 x0 x1 x2 x3 x4 x5)(h2:p2 x0 x1 x2 x3 x4 x5)(h3:p3 x0 x1 x2 x3 x4 x5)(h4:p4 x0 x1 x2 x3 x4 x5):∃x0 x1 x2 x3 x4 x5,p0 x0 x1 x2 x3 x4 x5/\p1 x0 x1 x2 x3 x4 x5/\p2 x0 x1 x2 x3 x4 x5/\p3 x0 x1 x2 x3 x4 x5/\p4 x0 x1 x2 x3 x4 x5:=⟨x0,x1,x2,x3,x4,x5,h0,h1,h2,h3,h4⟩
theorem JI{A0 A1 A2 A3 A4 A5:Sort _}{p0 p1 p2 p3 p4 p5 p6 p7:A0->A1->A2->A3->A4->A5->Prop}(x0:A0)(x1:A1)(x2:A2)(x3:A3)(x4:A4)(x5:A5)(h0:p0 x0 x1 x2 x3 x4 x5)(h1:p1 x0 x1 x2 x3 x4 x5)(h2:p2 x0 x1 x2 x3 x4 x5)(h3:p3 x0 x1 x2 x3 x4 x5)(h4:p4 x0 x1 x2 x3 x4 x5)(h5:p5 x0 x1 x2 x3 x4 x5)(h6:p6 x0 x1 x2 x3 x4 x5)(h7:p7 x0 x1 x2 x3 x4 x5):∃x0 x1 x2 x3 x4 x5,p0 x0 x1 x2 x3 x4 x5/\p1 x0 x1 x2 x3 x4 x5/\p2 x0 x1 x2 x3 x4 x5/\p3 x0 x1 x2 x3 x4 x5/\p4 x0 x1 x2 x3 x4 x5/\p5 x0 x1 x2 x3 x4 x5/\p6 x0 x1 x2 x3 x4 x5/\p7 x0 x1 x2 x3 x4 x5:=⟨x0,x1,x2,x3,x4,x5,h0,h1,h2,h3,h4,h5,h6,h7⟩
end Mine.Internal
end
noncomputable section
namespace Mine.Internal
variable {α:Type}{P:Prop}
@[elab_as_elim] theorem rwl{α:Sort _}{a b:α}{P:α->Prop}(h:a=b)(p:P b):P a:=h▸p
@[elab_as_elim] theorem rwr{α:Sort _}{a b:α}{P:α->Prop}(h:a=b)(p:P a):P b:=h▸p
theorem e02{p0 p1:Prop}(h:p0/\p1)(k:p0->p1->P):P:=k h.1 h.2
theorem e03{p0 p1 p2:Prop}(h:p0/\p1/\p2)(k:p0->p1->p2->P):P:=k h.1 h.2.1 h.2.2
theorem e04{p0 p1 p2 p3:Prop}(h:p0/\p1/\p2/\p3)(k:p0->p1->p2->p3->P):P:=k h.1 h.2.1 h.2.2.1 h.2.2.2
theorem e05{p0 p1 p2 p3 p4:Prop}(h:p0/\p1/\p2/\p3/\p4)(k:p0->p1->p2->p3->p4->P):P:=k h.1 h.2.1 h.2.2.1 h.2.2.2.1 h.2.2.2.2
theorem e06{p0 p1 p2 p3 p4 p5:Prop}(h:p0/\p1/\p2/\p3/\p4/\p5)(k:p0->p1->p2->p3->p4->p5->P):P:=k h.1 h.2.1 h.2.2.1 h.2.2.2.1 h.2.2.2.2.1 h.2.2.2.2.2
theorem e09{p0 p1 p2 p3 p4 p5 p6 p7 p8:Prop}(h:p0/\p1/\p2/\p3/\p4/\p5/\p6/\p7/\p8)(k:p0->p1->p2->p3->p4->p5->p6->p7->p8->P):P:=k h.1 h.2.1 h.2.2.1 h.2.2.2.1 h.2.2.2.2.1 h.2.2.2.2.2.1 h.2.2.2.2.2.2.1 h.2.2.2.2.2.2.2.1 h.2.2.2.2.2.2.2.2
theorem CZ{p0 p1 p2 p3 p4 p5 p6 p7 p8 p9 p10:Prop}(h:p0/\p1/\p2/\p3/\p4/\p5/\p6/\p7/\p8/\p9/\p10)(k:p0->p1->p2->p3->p4->p5->p6->p7->p8->p9->p10->P):P:=k h.1 h.2.1 h.2.2.1 h.2.2.2.1 h.2.2.2.2.1 h.2.2.2.2.2.1 h.2.2.2.2.2.2.1 h.2.2.2.2.2.2.2.1 h.2.2.2.2.2.2.2.2.1 h.2.2.2.2.2.2.2.2.2.1 h.2.2.2.2.2.2.2.2.2.2
theorem e11{A0:Sort _}{p0:A0->Prop}(h:∃x0,p0 x0)(k:∀x0,p0 x0->P):P:=h.elim λx0 h=>k x0 h
theorem e12{A0:Sort _}{p0 p1:A0->Prop}(h:∃x0,p0 x0/\p1 x0)(k:∀x0,p0 x0->p1 x0->P):P:=h.elim λx0 h=>k x0 h.1 h.2
theorem e13{A0:Sort _}{p0 p1 p2:A0->Prop}(h:∃x0,p0 x0/\p1 x0/\p2 x0)(k:∀x0,p0 x0->p1 x0->p2 x0->P):P:=h.elim λx0 h=>k x0 h.1 h.2.1 h.2.2
theorem e14{A0:Sort _}{p0 p1 p2 p3:A0->Prop}(h:∃x0,p0 x0/\p1 x0/\p2 x0/\p3 x0)(k:∀x0,p0 x0->p1 x0->p2 x0->p3 x0->P):P:=h.elim λx0 h=>k x0 h.1 h.2.1 h.2.2.1 h.2.2.2
theorem e21{A0 A1:Sort _}{p0:A0->A1->Prop}(h:∃x0 x1,p0 x0 x1)(k:∀x0 x1,p0 x0 x1->P):P:=h.elim λx0 h=>h.elim λx1 h=>k x0 x1 h
theorem e22{A0 A1:Sort _}{p0 p1:A0->A1->Prop}(h:∃x0 x1,p0 x0 x1/\p1 x0 x1)(k:∀x0 x1,p0 x0 x1->p1 x0 x1->P):P:=h.elim λx0 h=>h.elim λx1 h=>k x0 x1 h.1 h.2
theorem e23{A0 A1:Sort _}{p0 p1 p2:A0->A1->Prop}(h:∃x0 x1,p0 x0 x1/\p1 x0 x1/\p2 x0 x1)(k:∀x0 x1,p0 x0 x1->p1 x0 x1->p2 x0 x1->P):P:=h.elim λx0 h=>h.elim λx1 h=>k x0 x1 h.1 h.2.1 h.2.2
theorem e24{A0 A1:Sort _}{p0 p1 p2 p3:A0->A1->Prop}(h:∃x0 x1,p0 x0 x1/\p1 x0 x1/\p2 x0 x1/\p3 x0 x1)(k:∀x0 x1,p0 x0 x1->p1 x0 x1->p2 x0 x1->p3 x0 x1->P):P:=h.elim λx0 h=>h.elim λx1 h=>k x0 x1 h.1 h.2.1 h.2.2.1 h.2.2.2
theorem e31{A0 A1 A2:Sort _}{p0:A0->A1->A2->Prop}(h:∃x0 x1 x2,p0 x0 x1 x2)(k:∀x0 x1 x2,p0 x0 x1 x2->P):P:=h.elim λx0 h=>h.elim λx1 h=>h.elim λx2 h=>k x0 x1 x2 h
theorem e32{A0 A1 A2:Sort _}{p0 p1:A0->A1->A2->Prop}(h:∃x0 x1 x2,p0 x0 x1 x2/\p1 x0 x1 x2)(k:∀x0 x1 x2,p0 x0 x1 x2->p1 x0 x1 x2->P):P:=h.elim λx0 h=>h.elim λx1 h=>h.elim λx2 h=>k x0 x1 x2 h.1 h.2
theorem e33{A0 A1 A2:Sort _}{p0 p1 p2:A0->A1->A2->Prop}(h:∃x0 x1 x2,p0 x0 x1 x2/\p1 x0 x1 x2/\p2 x0 x1 x2)(k:∀x0 x1 x2,p0 x0 x1 x2->p1 x0 x1 x2->p2 x0 x1 x2->P):P:=h.elim λx0 h=>h.elim λx1 h=>h.elim λx2 h=>k x0 x1 x2 h.1 h.2.1 h.2.2
theorem e34{A0 A1 A2:Sort _}{p0 p1 p2 p3:A0->A1->A2->Prop}(h:∃x0 x1 x2,p0 x0 x1 x2/\p1 x0 x1 x2/\p2 x0 x1 x2/\p3 x0 x1 x2)(k:∀x0 x1 x2,p0 x0 x1 x2->p1 x0 x1 x2->p2 x0 x1 x2->p3 x0 x1 x2->P):P:=h.elim λx0 h=>h.elim λx1 h=>h.elim λx2 h=>k x0 x1 x2 h.1 h.2.1 h.2.2.1 h.2.2.2
theorem e35{A0 A1 A2:Sort _}{p0 p1 p2 p3 p4:A0->A1->A2->Prop}(h:∃x0 x1 x2,p0 x0 x1 x2/\p1 x0 x1 x2/\p2 x0 x1 x2/\p3 x0 x1 x2/\p4 x0 x1 x2)(k:∀x0 x1 x2,p0 x0 x1 x2->p1 x0 x1 x2->p2 x0 x1 x2->p3 x0 x1 x2->p4 x0 x1 x2->P):P:=h.elim λx0 h=>h.elim λx1 h=>h.elim λx2 h=>k x0 x1 x2 h.1 h.2.1 h.2.2.1 h.2.2.2.1 h.2.2.2.2
theorem e37{A0 A1 A2:Sort _}{p0 p1 p2 p3 p4 p5 p6:A0->A1->A2->Prop}(h:∃x0 x1 x2,p0 x0 x1 x2/\p1 x0 x1 x2/\p2 x0 x1 x2/\p3 x0 x1 x2/\p4 x0 x1 x2/\p5 x0 x1 x2/\p6 x0 x1 x2)(k:∀x0 x1 x2,p0 x0 x1 x2->p1 x0 x1 x2->p2 x0 x1 x2->p3 x0 x1 x2->p4 x0 x1 x2->p5 x0 x1 x2->p6 x0 x1 x2->P):P:=h.elim λx0 h=>h.elim λx1 h=>h.elim λx2 h=>k x0 x1 x2 h.1 h.2.1 h.2.2.1 h.2.2.2.1 h.2.2.2.2.1 h.2.2.2.2.2.1 h.2.2.2.2.2.2
theorem e42{A0 A1 A2 A3:Sort _}{p0 p1:A0->A1->A2->A3->Prop}(h:∃x0 x1 x2 x3,p0 x0 x1 x2 x3/\p1 x0 x1 x2 x3)(k:∀x0 x1 x2 x3,p0 x0 x1 x2 x3->p1 x0 x1 x2 x3->P):P:=h.elim λx0 h=>h.elim λx1 h=>h.elim λx2 h=>h.elim λx3 h=>k x0 x1 x2 x3 h.1 h.2
theorem e43{A0 A1 A2 A3:Sort _}{p0 p1 p2:A0->A1->A2->A3->Prop}(h:∃x0 x1 x2 x3,p0 x0 x1 x2 x3/\p1 x0 x1 x2 x3/\p2 x0 x1 x2 x3)(k:∀x0 x1 x2 x3,p0 x0 x1 x2 x3->p1 x0 x1 x2 x3->p2 x0 x1 x2 x3->P):P:=h.elim λx0 h=>h.elim λx1 h=>h.elim λx2 h=>h.elim λx3 h=>k x0 x1 x2 x3 h.1 h.2.1 h.2.2
theorem e44{A0 A1 A2 A3:Sort _}{p0 p1 p2 p3:A0->A1->A2->A3->Prop}(h:∃x0 x1 x2 x3,p0 x0 x1 x2 x3/\p1 x0 x1 x2 x3/\p2 x0 x1 x2 x3/\p3 x0 x1 x2 x3)(k:∀x0 x1 x2 x3,p0 x0 x1 x2 x3->p1 x0 x1 x2 x3->p2 x0 x1 x2 x3->p3 x0 x1 x2 x3->P):P:=h.elim λx0 h=>h.elim λx1 h=>h.elim λx2 h=>h.elim λx3 h=>k x0 x1 x2 x3 h.1 h.2.1 h.2.2.1 h.2.2.2
theorem e45{A0 A1 A2 A3:Sort _}{p0 p1 p2 p3 p4:A0->A1->A2->A3->Prop}(h:∃x0 x1 x2 x3,p0 x0 x1 x2 x3/\p1 x0 x1 x2 x3/\p2 x0 x1 x2 x3/\p3 x0 x1 x2 x3/\p4 x0 x1 x2 x3)(k:∀x0 x1 x2 x3,p0 x0 x1 x2 x3->p1 x0 x1 x2 x3->p2 x0 x1 x2 x3->p3 x0 x1 x2 x3->p4 x0 x1 x2 x3->P):P:=h.elim λx0 h=>h.elim λx1 h=>h.elim λx2 h=>h.elim λx3 h=>k x0 x1 x2 x3 h.1 h.2.1 h.2.2.1 h.2.2.2.1 h.2.2.2.2
theorem e48{A0 A1 A2 A3:Sort _}{p0 p1 p2 p3 p4 p5 p6 p7:A0->A1->A2->A3->Prop}(h:∃x0 x1 x2 x3,p0 x0 x1 x2 x3/\p1 x0 x1 x2 x3/\p2 x0 x1 x2 x3/\p3 x0 x1 x2 x3/\p4 x0 x1 x2 x3/\p5 x0 x1 x2 x3/\p6 x0 x1 x2 x3/\p7 x0 x1 x2 x3)(k:∀x0 x1 x2 x3,p0 x0 x1 x2 x3->p1 x0 x1 x2 x3->p2 x0 x1 x2 x3->p3 x0 x1 x2 x3->p4 x0 x1 x2 x3->p5 x0 x1 x2 x3->p6 x0 x1 x2 x3->p7 x0 x1 x2 x3->P):P:=h.elim λx0 h=>h.elim λx1 h=>h.elim λx2 h=>h.elim λx3 h=>k x0 x1 x2 x3 h.1 h.2.1 h.2.2.1 h.2.2.2.1 h.2.2.2.2.1 h.2.2.2.2.2.1 h.2.2.2.2.2.2.1 h.2.2.2.2.2.2.2
theorem e52{A0 A1 A2 A3 A4:Sort _}{p0 p1:A0->A1->A2->A3->A4->Prop}(h:∃x0 x1 x2 x3 x4,p0 x0 x1 x2 x3 x4/\p1 x0 x1 x2 x3 x4)(k:∀x0 x1 x2 x3 x4,p0 x0 x1 x2 x3 x4->p1 x0 x1 x2 x3 x4->P):P:=h.elim λx0 h=>h.elim λx1 h=>h.elim λx2 h=>h.elim λx3 h=>h.elim λx4 h=>k x0 x1 x2 x3 x4 h.1 h.2
theorem e53{A0 A1 A2 A3 A4:Sort _}{p0 p1 p2:A0->A1->A2->A3->A4->Prop}(h:∃x0 x1 x2 x3 x4,p0 x0 x1 x2 x3 x4/\p1 x0 x1 x2 x3 x4/\p2 x0 x1 x2 x3 x4)(k:∀x0 x1 x2 x3 x4,p0 x0 x1 x2 x3 x4->p1 x0 x1 x2 x3 x4->p2 x0 x1 x2 x3 x4->P):P:=h.elim λx0 h=>h.elim λx1 h=>h.elim λx2 h=>h.elim λx3 h=>h.elim λx4 h=>k x0 x1 x2 x3 x4 h.1 h.2.1 h.2.2
theorem e61{A0 A1 A2 A3 A4 A5:Sort _}{p0:A0->A1->A2->A3->A4->A5->Prop}(h:∃x0 x1 x2 x3 x4 x5,p0 x0 x1 x2 x3 x4 x5)(k:∀x0 x1 x2 x3 x4 x5,p0 x0 x1 x2 x3 x4 x5->P):P:=h.elim λx0 h=>h.elim λx1 h=>h.elim λx2 h=>h.elim λx3 h=>h.elim λx4 h=>h.elim λx5 h=>k x0 x1 x2 x3 x4 x5 h
theorem e62{A0 A1 A2 A3 A4 A5:Sort _}{p0 p1:A0->A1->A2->A3->A4->A5->Prop}(h:∃x0 x1 x2 x3 x4 x5,p0 x0 x1 x2 x3 x4 x5/\p1 x0 x1 x2 x3 x4 x5)(k:∀x0 x1 x2 x3 x4 x5,p0 x0 x1 x2 x3 x4 x5->p1 x0 x1 x2 x3 x4 x5->P):P:=h.elim λx0 h=>h.elim λx1 h=>h.elim λx2 h=>h.elim λx3 h=>h.elim λx4 h=>h.elim λx5 h=>k x0 x1 x2 x3 x4 x5 h.1 h.2
theorem e65{A0 A1 A2 A3 A4 A5:Sort _}{p0 p1 p2 p3 p4:A0->A1->A2->A3->A4->A5->Prop}(h:∃x0 x1 x2 x3 x4 x5,p0 x0 x1 x2 x3 x4 x5/\p1 x0 x1 x2 x3 x4 x5/\p2 x0 x1 x2 x3 x4 x5/\p3 x0 x1 x2 x3 x4 x5/\p4 x0 x1 x2 x3 x4 x5)(k:∀x0 x1 x2 x3 x4 x5,p0 x0 x1 x2 x3 x4 x5->p1 x0 x1 x2 x3 x4 x5->p2 x0 x1 x2 x3 x4 x5->p3 x0 x1 x2 x3 x4 x5->p4 x0 x1 x2 x3 x4 x5->P):P:=h.elim λx0 h=>h.elim λx1 h=>h.elim λx2 h=>h.elim λx3 h=>h.elim λx4 h=>h.elim λx5 h=>k x0 x1 x2 x3 x4 x5 h.1 h.2.1 h.2.2.1 h.2.2.2.1 h.2.2.2.2
theorem e68{A0 A1 A2 A3 A4 A5:Sort _}{p0 p1 p2 p3 p4 p5 p6 p7:A0->A1->A2->A3->A4->A5->Prop}(h:∃x0 x1 x2 x3 x4 x5,p0 x0 x1 x2 x3 x4 x5/\p1 x0 x1 x2 x3 x4 x5/\p2 x0 x1 x2 x3 x4 x5/\p3 x0 x1 x2 x3 x4 x5/\p4 x0 x1 x2 x3 x4 x5/\p5 x0 x1 x2 x3 x4 x5/\p6 x0 x1 x2 x3 x4 x5/\p7 x0 x1 x2 x3 x4 x5)(k:∀x0 x1 x2 x3 x4 x5,p0 x0 x1 x2 x3 x4 x5->p1 x0 x1 x2 x3 x4 x5->p2 x0 x1 x2 x3 x4 x5->p3 x0 x1 x2 x3 x4 x5->p4 x0 x1 x2 x3 x4 x5->p5 x0 x1 x2 x3 x4 x5->p6 x0 x1 x2 x3 x4 x5->p7 x0 x1 x2 x3 x4 x5->P):P:=h.elim λx0 h=>h.elim λx1 h=>h.elim λx2 h=>h.elim λx3 h=>h.elim λx4 h=>h.elim λx5 h=>k x0 x1 x2 x3 x4 x5 h.1 h.2.1 h.2.2.1 h.2.2.2.1 h.2.2.2.2.1 h.2.2.2.2.2.1 h.2.2.2.2.2.2.1 h.2.2.2.2.2.2.2
inductive V where
 |none|bool (b:Bool)|int (i:Int)|str (s:List Nat)|tup (l:List V)|ref (n:Nat)|rng (a b c:Int)|frz (l:List V)
 deriving Inhabited
inductive BO where|add|sub|mul|fdiv|fmod|shl|shr|or|and|xor
 deriving DecidableEq
inductive CO where|eq|ne|lt|le|gt|ge|is_|isn|in_|nin
 deriving DecidableEq
inductive BI where|len|range|str|sorted
 deriving DecidableEq
inductive ME where|append|extend|insert|find|split|join|lower|replace|get
 deriving DecidableEq
inductive Tg where|n (i:Nat)|t (l:List Nat)
inductive CE where
 |c (v:V)|loc (i:Nat)|glo (k:Nat)
 |bin (op:BO) (a b:CE)|neg (a:CE)|inv (a:CE)|not (a:CE)
 |and (l:List CE)|or (l:List CE)
 |cmp (op:CO) (a b:CE)|cmp2 (op1 op2:CO) (a b c:CE)
 |ife (t a b:CE)
 |call (f:Nat) (args:List CE)|new (c:Nat) (args:List CE)|excinit (args:List CE)
 |bi (b:BI) (args:List CE)|meth (m:ME) (o:CE) (args:List CE)
 |attr (o:CE) (a:Nat)|sub (o i:CE)|slice (o lo hi:CE)
 |lst (l:List CE)|tup (l:List CE)|dict0
 |comp (elt:CE) (tg:Tg) (src:CE) (ifs:List CE)
 |fstr (l:List CE)|fmt (e:CE)
inductive CS where
 |asg (t:Tg) (e:CE)|setA (o:CE) (a:Nat) (e:CE)|setI (o i e:CE)
 |aug (i:Nat) (op:BO) (e:CE)|augA (o:CE) (a:Nat) (op:BO) (e:CE)|augI (o i:CE) (op:BO) (e:CE)
 |ex (e:CE)|ret (e:CE)
 |ifs (t:CE) (a b:List CS)|whl (t:CE) (b:List CS)|for (t:Tg) (src:CE) (b:List CS)
 |raise (c:Nat) (args:List CE)|try (b:List CS) (cls:Nat) (nm:Option Nat) (h:List CS)|cont
structure Fn where
 body:List CS
 npar:Nat
 nloc:Nat
inductive O where
 |list (l:List V)|inst (c:Nat) (fs:List (Nat×V))|dict (kvs:List (List Nat×V))|exc (c:Nat) (fs:List (Nat×V))
 deriving Inhabited
inductive Tr where|nil|node (v:Option O) (l r:Tr)
 deriving Inhabited
def sel(b:Bool)(x y:α):α:=Bool.rec y x b
def Tr.get(t:Tr):Nat->Option O:=
 Tr.rec (λZ=>none) (λv Z Z gl gr i=>Bool.rec (Bool.rec (gr (Nat.sub (Nat.div i 2) 1)) (gl (Nat.div i 2)) (Nat.beq (Nat.mod i 2) 1)) v (Nat.beq i 0)) t
def Tr.upd(o:O)(f:Nat):Tr->Nat->Tr:=
 Nat.rec (λt Z=>t) (λZ ih t i=>Tr.rec
  (Bool.rec (Bool.rec (.node none .nil (ih .nil (Nat.sub (Nat.div i 2) 1))) (.node none (ih .nil (Nat.div i 2)) .nil) (Nat.beq (Nat.mod i 2) 1)) (.node (some o) .nil .nil) (Nat.beq i 0))
  (λv l r Z Z=>Bool.rec (Bool.rec (.node v l (ih r (Nat.sub (Nat.div i 2) 1))) (.node v (ih l (Nat.div i 2)) r) (Nat.beq (Nat.mod i 2) 1)) (.node (some o) l r) (Nat.beq i 0)) t) f
structure St where
 h:Tr
 n:Nat
 deriving Inhabited
inductive RE(α:Type) where|ok (a:α) (s:St)|exc (e:Nat) (s:St)|stuck
def RE.bind{α β:Type}(r:RE α)(f:α->St->RE β):RE β:=RE.rec f (λe s=>.exc e s) .stuck r
inductive Fl where|next|cont|ret (v:V)
noncomputable def fN(n:Nat)(k:Nat->α):α:=Nat.rec (k 0) (λm Z=>k (Nat.succ m)) n
def mkI(i:Int):V:=Int.rec (λn=>fN n λn=>.int (.ofNat n)) (λn=>fN n λn=>.int (.negSucc n)) i
def ltB(a b:Int):Bool:=Int.rec (λm=>Int.rec (λn=>Nat.blt m n) (λZ=>false) b) (λm=>Int.rec (λZ=>true) (λn=>Nat.blt n m) b) a
def leB(a b:Int):Bool:=Int.rec (λm=>Int.rec (λn=>Nat.ble m n) (λZ=>false) b) (λm=>Int.rec (λZ=>true) (λn=>Nat.ble n m) b) a
def eqB(a b:Int):Bool:=Int.rec (λm=>Int.rec (λn=>Nat.beq m n) (λZ=>false) b) (λm=>Int.rec (λZ=>false) (λn=>Nat.beq m n) b) a
def eqS(a:List Nat):List Nat->Bool:=
 List.rec (λb=>List.rec true (λZ Z Z=>false) b) (λx Z ih b=>List.rec false (λy r Z=>Bool.rec false (ih r) (Nat.beq x y)) b) a
noncomputable def vN{R:Type}(v:V)(d f:R):R:=V.casesOn (motive_1:=λZ=>R) v f (λZ=>d) (λZ=>d) (λZ=>d) (λZ=>d) (λZ=>d) (λZ Z Z=>d) (λZ=>d)
noncomputable def vB{R:Type}(v:V)(d:R)(f:Bool->R):R:=V.casesOn (motive_1:=λZ=>R) v d f (λZ=>d) (λZ=>d) (λZ=>d) (λZ=>d) (λZ Z Z=>d) (λZ=>d)
noncomputable def vI{R:Type}(v:V)(d:R)(f:Int->R):R:=V.casesOn (motive_1:=λZ=>R) v d (λZ=>d) f (λZ=>d) (λZ=>d) (λZ=>d) (λZ Z Z=>d) (λZ=>d)
noncomputable def vS{R:Type}(v:V)(d:R)(f:List Nat->R):R:=V.casesOn (motive_1:=λZ=>R) v d (λZ=>d) (λZ=>d) f (λZ=>d) (λZ=>d) (λZ Z Z=>d) (λZ=>d)
noncomputable def vT{R:Type}(v:V)(d:R)(f:List V->R):R:=V.casesOn (motive_1:=λZ=>R) v d (λZ=>d) (λZ=>d) (λZ=>d) f (λZ=>d) (λZ Z Z=>d) (λZ=>d)
noncomputable def vR{R:Type}(v:V)(d:R)(f:Nat->R):R:=V.casesOn (motive_1:=λZ=>R) v d (λZ=>d) (λZ=>d) (λZ=>d) (λZ=>d) f (λZ Z Z=>d) (λZ=>d)
noncomputable def vF{R:Type}(v:V)(d:R)(f:List V->R):R:=V.casesOn (motive_1:=λZ=>R) v d (λZ=>d) (λZ=>d) (λZ=>d) (λZ=>d) (λZ=>d) (λZ Z Z=>d) f
@[elab_as_elim] theorem AC{R:Type}{v:V}{d f r:R}{P:V->Prop}(h:vN v d f=r)(k:f=r->P .none)(e:d=r->P v):P v:=by cases v with|none=>exact k h|_=>exact e h
@[elab_as_elim] theorem jW{R:Type}{v:V}{d:R}{f:Int->R}{r:R}{P:V->Prop}(h:vI v d f=r)(k:∀i,f i=r->P (.int i))(e:d=r->P v):P v:=by cases v with|int i=>exact k i h|_=>exact e h
@[elab_as_elim] theorem qL{R:Type}{v:V}{d:R}{f:List Nat->R}{r:R}{P:V->Prop}(h:vS v d f=r)(k:∀i,f i=r->P (.str i))(e:d=r->P v):P v:=by cases v with|str i=>exact k i h|_=>exact e h
@[elab_as_elim] theorem wJ{R:Type}{v:V}{d:R}{f:List V->R}{r:R}{P:V->Prop}(h:vT v d f=r)(k:∀i,f i=r->P (.tup i))(e:d=r->P v):P v:=by cases v with|tup i=>exact k i h|_=>exact e h
@[elab_as_elim] theorem mE{R:Type}{v:V}{d:R}{f:Nat->R}{r:R}{P:V->Prop}(h:vR v d f=r)(k:∀i,f i=r->P (.ref i))(e:d=r->P v):P v:=by cases v with|ref i=>exact k i h|_=>exact e h
@[elab_as_elim] theorem YM{R:Type}{v:V}{d:R}{f:List V->R}{r:R}{P:V->Prop}(h:vF v d f=r)(k:∀i,f i=r->P (.frz i))(e:d=r->P v):P v:=by cases v with|frz i=>exact k i h|_=>exact e h
theorem bV{k:α}(h:none=some k):P:=by cases h
def eqT(a b:V):Option Bool:=V.casesOn (motive_1:=λZ=>Option Bool) a (vN b (vI b (vS b none λZ=>some false) λZ=>some false) (some true)) (λx=>vB b none λy=>some (x == y))
 (λx=>vN b (vI b (vS b none λZ=>some false) λy=>some (eqB x y)) (some false)) (λx=>vN b (vI b (vS b none λy=>some (eqS x y)) λZ=>some false) (some false)) (λZ=>none) (λZ=>none) (λZ Z Z=>none) (λZ=>none)
def nth(l:List α):Nat->Option α:=List.rec (λZ=>none) (λa Z ih i=>Nat.rec (some a) (λj Z=>ih j) i) l
def bZ(l:List α):Nat->α->List α:=List.rec (λZ Z=>[]) (λa l ih i x=>Nat.rec (x::l) (λj Z=>a::ih j x) i) l
def bC(l:List α):Nat:=List.rec 0 (λZ Z ih=>Nat.succ ih) l
def app(a b:List α):List α:=List.rec b (λx Z ih=>x::ih) a
def iK{α β:Type}(f:α->β)(a:List α):List β:=List.rec [] (λx Z ih=>f x::ih) a
def eqL(a:List V):List V->Option Bool:=
 List.rec (λb=>List.rec (some true) (λZ Z Z=>some false) b) (λx Z ih b=>List.rec (some false) (λy r Z=>
  Option.rec none (λt=>Bool.rec (Option.rec none (λZ=>some false) (ih r)) (ih r) t) (eqT x y)) b) a
def eqV(a b:V):Option Bool:=vT a (vN a (eqT a b) (vT b (eqT .none b) λZ=>some false)) λx=>vT b (vN b none (some false)) λy=>eqL x y
def CX(a:List V):List V->Option Bool:=
 List.rec (λb=>List.rec (some true) (λZ Z Z=>some false) b) (λx Z ih b=>List.rec (some false) (λy r Z=>
  Option.rec none (λt=>Bool.rec (Option.rec none (λZ=>some false) (ih r)) (ih r) t) (eqV x y)) b) a
def aBw(x y:Int):Int:=Int.rec
 (λm=>Int.rec (λn=>.ofNat (Nat.land m n)) (λn=>.ofNat (Nat.sub m (Nat.land m n))) y)
 (λm=>Int.rec (λn=>.ofNat (Nat.sub n (Nat.land n m))) (λn=>.negSucc (Nat.lor m n)) y) x
def QC(a b:Int)(k:Nat->Nat->Option V):Option V:=Int.rec (λm=>Int.rec (λn=>k m n) (λZ=>none) b) (λZ=>none) a
def small(b:Nat)(x:Nat)(v:V):Option V:=sel (Nat.blt x b) (some v) none
def TU(op:BO)(a b:Int):Option V:=BO.rec
 (some (mkI (Int.add a b))) (some (mkI (Int.sub a b)))
 (sel (Nat.blt (Int.natAbs a) 1000000) (small 1000000 (Int.natAbs b) (mkI (Int.mul a b))) none)
 (sel (eqB b 0) none (small 1000000 (Int.natAbs b) (mkI (Int.fdiv a b)))) (sel (eqB b 0) none (some (mkI (Int.fmod a b))))
 (QC a b λm n=>sel (Nat.blt m 340282366920938463463374607431768211456) (small 200 n (mkI (.ofNat (Nat.mul m (Nat.pow 2 n))))) none)
 (QC a b λm n=>small 200 n (mkI (.ofNat (Nat.div m (Nat.pow 2 n)))))
 (QC a b λm n=>some (mkI (.ofNat (Nat.lor m n))))
 (some (mkI (aBw a b)))
 (QC a b λm n=>some (mkI (.ofNat (Nat.xor m n)))) op
noncomputable def NP(v:V)(n:Nat):List V:=Nat.rec [] (λZ ih=>v::ih) n
def iS(l:List Nat)(n:Nat):List Nat:=Nat.rec [] (λZ ih=>app l ih) n
def fF(l:List (Nat×V))(a:Nat):Option V:=List.rec none (λp Z ih=>Bool.rec ih (some p.2) (Nat.beq p.1 a)) l
def iM(l:List (Nat×V))(a:Nat)(v:V):List (Nat×V):=List.rec [(a,v)] (λp l ih=>Bool.rec (p::ih) ((a,v)::l) (Nat.beq p.1 a)) l
def cN(l:List (List Nat×V))(a:List Nat):Option V:=List.rec none (λp Z ih=>Bool.rec ih (some p.2) (eqS p.1 a)) l
def fG(l:List (List Nat×V))(a:List Nat)(v:V):List (List Nat×V):=List.rec [(a,v)] (λp l ih=>Bool.rec (p::ih) ((p.1,v)::l) (eqS p.1 a)) l
def St.new(s:St)(o:O)(k:Nat->St->RE α):RE α:=fN s.n λn=>sel (Nat.blt n 1000) (k n ⟨s.h.upd o 10 n,Nat.succ n⟩) .stuck
noncomputable def lim:Nat:=100000
def cZ(s:St)(l:List V):RE V:=sel (Nat.blt (bC l) lim) (s.new (.list l) λn s=>.ok (.ref n) s) .stuck
def okS(s:St)(l:List Nat):RE V:=sel (Nat.blt (bC l) lim) (.ok (.str l) s) .stuck
def pM(i:Int):Option Nat:=Int.rec some (λZ=>none) i
def gH(l:List α):Bool:=List.rec true (λZ Z Z=>false) l
def cW(b:Bool):Bool:=Bool.rec true false b
def oO{R:Type}(x:Option O)(z:R)(fl:List V->R)(fi:Nat->List (Nat×V)->R)(fd:List (List Nat×V)->R)(fe:Nat->List (Nat×V)->R):R:=Option.rec z (λo=>O.casesOn (motive:=λZ=>R) o fl fi fd fe) x
def aP(s:St)(n:Nat)(z:α)(k:List V->α):α:=oO (s.h.get n) z k (λZ Z=>z) (λZ=>z) (λZ Z=>z)
def fT(s:St)(n:Nat)(z:α)(k:List (List Nat×V)->α):α:=oO (s.h.get n) z (λZ=>z) (λZ Z=>z) k (λZ Z=>z)
def gL(s:St)(v:V):Option Bool:=V.casesOn (motive_1:=λZ=>Option Bool) v (some false) (λb=>some b) (λi=>some (cW (eqB i 0))) (λl=>some (cW (gH l))) (λZ=>none)
 (λn=>aP s n none λl=>some (cW (gH l))) (λZ Z Z=>none) (λZ=>none)
def ofO(s:St)(x:Option α):RE α:=Option.rec .stuck (λa=>.ok a s) x
def RN(op:BO):Bool:=BO.rec true false false false false false false false false false op
def RH(op:BO):Bool:=BO.rec false false true false false false false false false false op
def lone(l:List V)(k:V->RE V):RE V:=List.rec .stuck (λx r Z=>List.rec (k x) (λZ Z Z=>.stuck) r) l
def YU(s:St)(n:Nat)(k:RE V):RE V:=sel (Nat.blt n 1000) k .stuck
def gA(op:BO)(a b:V)(s:St):RE V:=vI a (vS a (vR a .stuck
 λa=>vI b (vR b .stuck λb=>sel (RN op) (aP s a .stuck λx=>aP s b .stuck λy=>cZ s (app x y)) .stuck) λb=>sel (RH op) (Option.rec .stuck (λn=>YU s n (aP s a .stuck λl=>lone l λx=>cZ s (NP x n))) (pM b)) .stuck)
 λa=>vS b (vI b .stuck λb=>sel (RH op) (Option.rec .stuck (λn=>YU s n (okS s (iS a n))) (pM b)) .stuck) λb=>sel (RN op) (okS s (app a b)) .stuck)
 λa=>vI b .stuck λb=>ofO s (TU op a b)
def iG(op:BO)(a b:V)(s:St):RE V:=vI a (vS a .stuck λa=>vS b .stuck λb=>sel (RN op) (okS s (app a b)) .stuck) λa=>vI b .stuck λb=>ofO s (TU op a b)
def kQ(x:List Nat)(l:List V):Option Bool:=List.rec (some false) (λv Z ih=>match v with
 |.str y=>Bool.rec ih (Option.rec none (λZ=>some true) ih) (eqS x y)
 |_=>none) l
def HQ(x:Option α):Bool:=Option.rec false (λZ=>true) x
def inV(s:St)(a b:V):Option Bool:=vS a none λx=>vT b (vR b none λn=>Option.rec none (λo=>O.casesOn (motive:=λZ=>Option Bool) o (kQ x) (λZ Z=>none) (λkvs=>some (HQ (cN kvs x))) (λZ Z=>none)) (s.h.get n)) (kQ x)
def eqH(s:St)(a b:V):Option Bool:=vR a (vN a (eqV a b) (vR b (eqV .none b) λb=>aP s b none λZ=>some false)) λa=>vR b (vN b none (aP s a none λZ=>some false)) λb=>aP s a none λx=>aP s b none λy=>CX x y
noncomputable def iF(v:V):Bool:=vN v false true
def uZ(x:Option Bool):Option Bool:=Option.rec none (λb=>some (cW b)) x
noncomputable def LK(a b:V)(k:Int->Int->Bool):Option Bool:=vI a none λa=>vI b none λb=>some (k a b)
noncomputable def isN(a b:V):Option Bool:=vN b none (some (iF a))
def cT(s:St)(op:CO)(a b:V):Option Bool:=CO.rec
 (eqH s a b) (uZ (eqH s a b)) (LK a b ltB) (LK a b leB) (LK a b λa b=>ltB b a) (LK a b λa b=>leB b a)
 (isN a b) (uZ (isN a b)) (inV s a b) (uZ (inV s a b)) op
def okB(s:St)(x:Option Bool):RE V:=Option.rec .stuck (λb=>Bool.rec (.ok (.bool false) s) (.ok (.bool true) s) b) x
def sR(c:Int)(n:Nat):Int->List V:=Nat.rec (λZ=>[]) (λZ ih a=>mkI a::ih (Int.add a c)) n
def pH(a b c:Int):Option Nat:=sel (eqB c 1) (some (sel (ltB a b) (Int.toNat (Int.sub b a)) 0))
 (sel (eqB c (-1)) (some (sel (ltB b a) (Int.toNat (Int.sub a b)) 0)) none)
def aLm(l:List Nat):List V:=List.rec [] (λc Z ih=>.str [c]::ih) l
def EP(l:List Nat):Option (List V):=List.rec (some []) (λc Z ih=>sel (Nat.blt c 128) (Option.rec none (λr=>some (.str [c]::r)) ih) none) l
def gR(p:α->Bool)(l:List α):Bool:=List.rec true (λx Z ih=>Bool.rec false ih (p x)) l
def items(s:St)(v:V):Option (List V):=V.casesOn (motive_1:=λZ=>Option (List V)) v none (λZ=>none) (λZ=>none) (λl=>EP l) (λl=>some l) (λZ=>none)
 (λa b c=>sel (Nat.blt (Int.natAbs a) 1000000) (sel (Nat.blt (Int.natAbs b) 1000000) (Option.rec none (λn=>sel (Nat.blt n lim) (some (sR c n a)) none) (pH a b c)) none) none) (λZ=>none)
abbrev Loc:=List (Option V)
def mP(is:List Nat):List V->Loc->Option Loc:=
 List.rec (λvs l=>List.rec (some l) (λZ Z Z=>none) vs) (λi Z ih vs l=>List.rec none (λv vs Z=>ih vs (bZ l i (some v))) vs) is
def put(l:Loc)(t:Tg)(v:V):Option Loc:=match t with
 |.n i=>some (bZ l i (some v))
 |.t is=>match v with|.tup vs=>mP is vs l|_=>none
def rD(c:Nat)(l:List Nat):Nat->Int:=List.rec (λZ=>-1) (λx Z ih i=>Bool.rec (ih (Nat.succ i)) (.ofNat i) (Nat.beq x c)) l
def rev(l:List Nat):List Nat->List Nat:=List.rec (λa=>a) (λx Z ih a=>ih (x::a)) l
def sO(c:Nat)(l:List Nat):List Nat->List V:=
 List.rec (λacc=>[.str (rev acc [])]) (λx Z ih acc=>Bool.rec (ih (x::acc)) (.str (rev acc [])::ih []) (Nat.beq x c)) l
def xN(sep:List Nat)(l:List V):Option (List Nat):=List.rec (some []) (λv r ih=>match v with
 |.str x=>List.rec (some x) (λZ Z Z=>Option.rec none (λy=>some (app x (app sep y))) ih) r
 |_=>none) l
def BY(c:Nat):Bool:=sel (Nat.beq c 46) true (sel (Nat.beq c 82) true (Nat.beq c 75))
def FL(c:Nat):Nat:=sel (Nat.beq c 82) 114 (sel (Nat.beq c 75) 107 c)
def VB(p:List Nat):List Nat->Option (List Nat):=
 List.rec some (λa Z ih l=>List.rec none (λb r Z=>Bool.rec none (ih r) (Nat.beq a b)) l) p
def wY(old new:List Nat)(f:Nat):List Nat->List Nat:=Nat.rec (λl=>l) (λZ ih l=>List.rec [] (λc r Z=>
 Option.rec (c::ih r) (λr'=>app new (ih r')) (VB old (c::r))) l) f
def sM(i:Int):Option (List Nat):=Int.rec (λn=>sel (Nat.blt n 10) (some [Nat.add 48 n]) (sel (Nat.blt n 100) (some [Nat.add 48 (Nat.div n 10),Nat.add 48 (Nat.mod n 10)]) none)) (λZ=>none) i
def leS(a:List Nat):List Nat->Bool:=
 List.rec (λZ=>true) (λx Z ih b=>List.rec false (λy r Z=>Bool.rec (Bool.rec false (ih r) (Nat.beq x y)) true (Nat.blt x y)) b) a
def eN(v:V):List Nat:=vS v (vT v [] λl=>List.rec [] (λx Z Z=>vS x [] λs=>s) l) λs=>s
theorem ffB(h:false=true):P:=by cases h
def CI(v:V)(l:List V):List V:=List.rec [v] (λx l ih=>Bool.rec (x::ih) (v::x::l) (leS (eN v) (eN x))) l
def iC(l:List V):List V:=List.rec [] (λv Z ih=>CI v ih) l
def tO(v:V)(l:List V):Nat->List V:=List.rec (λZ=>[v]) (λx l ih n=>Nat.rec (v::x::l) (λm Z=>x::ih m) n) l
def eU(l:List (List Nat×V)):List V:=List.rec [] (λp Z ih=>.str p.1::ih) l
def DA(l:List V):Nat->List V:=List.rec (λZ=>[]) (λx l ih n=>Nat.rec (x::l) (λm Z=>ih m) n) l
def AG(l:List V):Nat->List V:=List.rec (λZ=>[]) (λx Z ih n=>Nat.rec [] (λm Z=>x::ih m) n) l
def aLg(l:List V):Bool:=gR (λv=>vS v false λZ=>true) l
def oY(l:List V):Bool:=gR (λv=>vT v false λl=>List.rec false (λx r Z=>vS x false λZ=>List.rec false (λy t Z=>vS y false λZ=>List.rec true (λZ Z Z=>false) t) r) l) l
def qJ(l:List V):Bool:=List.rec true (λv r ih=>Bool.rec false ih (gR (λx=>cW (eqS (eN v) (eN x))) r)) l
noncomputable def AB(v:V)(f:Nat->RE α):RE α:=vR v .stuck f
noncomputable def sH(v:V)(f:List Nat->RE α):RE α:=vS v .stuck f
noncomputable def JZ(v:V)(f:Int->RE α):RE α:=vI v .stuck f
def a0(l:List α)(x:RE V):RE V:=List.rec x (λZ Z Z=>.stuck) l
def a1(l:List α)(f:α->RE V):RE V:=List.rec .stuck (λa r Z=>a0 r (f a)) l
def a2(l:List α)(f:α->α->RE V):RE V:=List.rec .stuck (λa r Z=>a1 r (f a)) l
theorem lO{v:V}{f:Nat->RE α}(h:AB v f≠.stuck):∃n,v=.ref n/\f n≠.stuck:=by cases v<;>first|exact⟨_,rfl,h⟩|exact absurd rfl h
theorem jI{v:V}{f:List Nat->RE α}(h:sH v f≠.stuck):∃n,v=.str n/\f n≠.stuck:=by cases v<;>first|exact⟨_,rfl,h⟩|exact absurd rfl h
theorem nJ{v:V}{f:Int->RE α}(h:JZ v f≠.stuck):∃n,v=.int n/\f n≠.stuck:=by cases v<;>first|exact⟨_,rfl,h⟩|exact absurd rfl h
theorem UF{l:List α}{x}(h:a0 l x≠.stuck):l=[]/\x≠.stuck:=by cases l with|nil=>exact⟨rfl,h⟩|cons a l=>exact absurd rfl h
theorem mJ{l:List α}{f}(h:a1 l f≠.stuck):∃a,l=[a]/\f a≠.stuck:=by
 cases l with
 |nil=>exact absurd rfl h
 |cons a l=>obtain⟨rfl,h⟩:=UF (show a0 l (f a)≠.stuck from h);exact⟨a,rfl,h⟩
theorem aBx{l:List α}{f}(h:a2 l f≠.stuck):∃a b,l=[a,b]/\f a b≠.stuck:=by
 cases l with
 |nil=>exact absurd rfl h
 |cons a l=>obtain⟨b,rfl,h⟩:=mJ (show a1 l (f a)≠.stuck from h);exact⟨a,b,rfl,h⟩
def aBv(v:V)(s:St):RE V:=match v with
 |.ref n=>aP s n .stuck λl=>.ok (mkI (.ofNat (bC l))) s
 |.str l=>.ok (mkI (.ofNat (bC l))) s
 |.frz l=>.ok (mkI (.ofNat (bC l))) s
 |_=>.stuck
def bi(b:BI)(args:List V)(s:St):RE V:=match b with
 |.len=>a1 args λv=>aBv v s
 |.range=>List.rec .stuck (λx r Z=>JZ x λa=>List.rec (.ok (.rng 0 a 1) s) (λy r Z=>JZ y λb=>List.rec (.ok (.rng a b 1) s) (λz r Z=>JZ z λc=>a0 r (sel (eqB c (-1)) (.ok (.rng a b c) s) .stuck)) r) r) args
 |.str=>a1 args λv=>JZ v λi=>ofO s (Option.rec none (λl=>some (.str l)) (sM i))
 |.sorted=>a1 args λv=>AB v λn=>match s.h.get n with
  |some (.list l)=>sel (Nat.blt (bC l) 64) (sel (oY l) (sel (qJ l) (cZ s (iC l)) .stuck) .stuck) .stuck
  |some (.dict kvs)=>sel (Nat.blt (bC kvs) 64) (cZ s (iC (eU kvs))) .stuck
  |_=>.stuck
def bE(s:St)(n:Nat)(o:O):St:=⟨s.h.upd o 10 n,s.n⟩
def iR(s:St)(n:Nat)(l:List V):RE V:=sel (Nat.blt (bC l) lim) (.ok .none (bE s n (.list l))) .stuck
noncomputable def sS:List (List Nat×List Nat×List Nat):=[
 ([114,46,107,114,47,112,112,112,112,47,46,46,46,46,47,80,80,80,80,47,82,46,75,82],[46,46,46,46],[52]),
 ([114,46,107,114,47,112,112,112,112,47,52,47,80,80,80,80,47,82,46,75,82],[46,46,46],[51]),
 ([114,46,107,114,47,112,112,112,112,47,52,47,80,80,80,80,47,82,46,75,82],[46,46],[50]),
 ([114,46,107,114,47,112,112,112,112,47,52,47,80,80,80,80,47,82,46,75,82],[46],[49]),
 ([114,46,46,107,46,46,114,47,46,46,46,46,46,46,46,47,82,46,46,75,46,46,82],[46,46,46,46,46,46,46],[55]),
 ([114,46,46,107,46,46,114,47,55,47,82,46,46,75,46,46,82],[46,46,46,46,46,46],[54]),
 ([114,46,46,107,46,46,114,47,55,47,82,46,46,75,46,46,82],[46,46,46,46,46],[53]),
 ([114,46,46,107,46,46,114,47,55,47,82,46,46,75,46,46,82],[46,46,46,46],[52]),
 ([114,46,46,107,46,46,114,47,55,47,82,46,46,75,46,46,82],[46,46,46],[51]),
 ([114,46,46,107,46,46,114,47,55,47,82,46,46,75,46,46,82],[46,46],[50]),
 ([114,50,107,50,114,47,55,47,82,50,75,50,82],[46],[49]),
 ([114,46,46,107,46,114,47,112,112,112,112,112,112,47,46,46,46,46,46,46,47,80,80,80,80,80,80,47,82,46,46,75,46,82],[46,46,46,46,46,46],[54]),
 ([114,46,46,107,46,114,47,112,112,112,112,112,112,47,54,47,80,80,80,80,80,80,47,82,46,46,75,46,82],[46,46,46,46,46],[53]),
 ([114,46,46,107,46,114,47,112,112,112,112,112,112,47,54,47,80,80,80,80,80,80,47,82,46,46,75,46,82],[46,46,46,46],[52]),
 ([114,46,46,107,46,114,47,112,112,112,112,112,112,47,54,47,80,80,80,80,80,80,47,82,46,46,75,46,82],[46,46,46],[51]),
 ([114,46,46,107,46,114,47,112,112,112,112,112,112,47,54,47,80,80,80,80,80,80,47,82,46,46,75,46,82],[46,46],[50]),
 ([114,50,107,46,114,47,112,112,112,112,112,112,47,54,47,80,80,80,80,80,80,47,82,50,75,46,82],[46],[49])]
def xS(a b c:List Nat):Bool:=List.rec false (λp Z ih=>Bool.rec ih true (sel (eqS p.1 a) (sel (eqS p.2.1 b) (eqS p.2.2 c) false) false)) sS
def meth(m:ME)(o:V)(args:List V)(s:St):RE V:=match m with
 |.append=>AB o λn=>a1 args λv=>aP s n .stuck λl=>iR s n (app l [v])
 |.extend=>AB o λn=>a1 args λk=>AB k λk=>aP s n .stuck λl=>aP s k .stuck λr=>sel (Nat.beq n k) .stuck (iR s n (app l r))
 |.insert=>AB o λn=>a2 args λi v=>JZ i λi=>Option.rec .stuck (λi=>sel (Nat.blt i 1000) (aP s n .stuck λl=>iR s n (tO v l i)) .stuck) (pM i)
 |.find=>sH o λl=>a1 args λc=>sH c λc=>a1 c λc=>.ok (mkI (rD c l 0)) s
 |.split=>sH o λl=>a1 args λc=>sH c λc=>a1 c λc=>cZ s (sO c l [])
 |.join=>sH o λsep=>a1 args λn=>AB n λn=>aP s n .stuck λl=>Option.rec .stuck (okS s) (xN sep l)
 |.lower=>sH o λl=>a0 args (sel (gR BY l) (okS s (iK FL l)) .stuck)
 |.replace=>sH o λl=>a2 args λo w=>sH o λo=>sH w λw=>sel (xS l o w) (okS s (wY o w (Nat.succ (bC l)) l)) .stuck
 |.get=>AB o λn=>a2 args λk d=>sH k λk=>fT s n .stuck λkvs=>.ok (Option.rec d (λv=>v) (cN kvs k)) s
def iJ(m:ME)(o:V)(s:St):Bool:=vR o (vS o false λZ=>ME.rec false false false true true true true true false m)
 λn=>oO (s.h.get n) false (λZ=>ME.rec true true true false false false false false false m) (λZ Z=>false) (λZ=>ME.rec false false false false false false false false true m) (λZ Z=>false)
def item(s:St)(o i:V):Option V:=vT o (vF o (vS o (vR o none
 λk=>vI i (vS i none λx=>fT s k none λkvs=>cN kvs x) λi=>Option.rec none (λn=>aP s k none λl=>nth l n) (pM i))
 λl=>vI i none λi=>Option.rec none (λn=>Option.rec none (λc=>some (.str [c])) (nth l n)) (pM i))
 λl=>vI i none λi=>Option.rec none (nth l) (pM i)) λl=>vI i none λi=>Option.rec none (nth l) (pM i)
def setItem(s:St)(o i v:V):Option St:=vR o none λk=>vI i (vS i none
 λx=>fT s k none λkvs=>sel (Nat.blt (bC kvs) 1000) (some (bE s k (.dict (fG kvs x v)))) none)
 λi=>Option.rec none (λn=>aP s k none λl=>sel (Nat.blt n (bC l)) (some (bE s k (.list (bZ l n v)))) none) (pM i)
def tQ(s:St)(o:V)(a:Nat):Option V:=vR o none λk=>oO (s.h.get k) none (λZ=>none) (λZ fs=>fF fs a) (λZ=>none) (λZ fs=>fF fs a)
def setA(s:St)(o:V)(a:Nat)(v:V):Option St:=vR o none λk=>oO (s.h.get k) none (λZ=>none) (λc fs=>sel (Nat.blt (bC fs) 1000) (some (bE s k (.inst c (iM fs a v)))) none) (λZ=>none)
 (λc fs=>sel (Nat.blt (bC fs) 1000) (some (bE s k (.exc c (iM fs a v)))) none)
inductive RS where|ok (f:Fl) (l:Loc) (s:St)|exc (e:Nat) (l:Loc) (s:St)|stuck
structure Ev where
 e:CE->Loc->St->RE V
 b:List CS->Loc->St->RS
def RE.bs(l:Loc)(r:RE α)(f:α->St->RS):RS:=RE.rec f (λe s=>.exc e l s) .stuck r
def RE.noExc(r:RE α):RE α:=RE.rec .ok (λZ Z=>.stuck) .stuck r
def evs(ih:Ev)(l:Loc)(es:List CE):St->RE (List V):=
 List.rec (λs=>.ok [] s) (λe Z k s=>(ih.e e l s).bind λv s=>(k s).bind λvs s=>.ok (v::vs) s) es
def eZ{α β:Type}(x:Option α)(k:α->RE β):RE β:=Option.rec .stuck k x
def eM(x:Option α)(k:α->RS):RS:=Option.rec .stuck k x
def DV(k:St->RE V)(v:V)(s:St):RE V:=eZ (gL s v) λb=>Bool.rec (.ok v s) (k s) b
def orK(k:St->RE V)(v:V)(s:St):RE V:=eZ (gL s v) λb=>Bool.rec (k s) (.ok v s) b
def mD(ih:Ev)(l:Loc)(es:List CE):St->RE V:=
 List.rec (λZ=>.stuck) (λe r k s=>List.rec (ih.e e l s) (λZ Z Z=>(ih.e e l s).bind (DV k)) r) es
def orE(ih:Ev)(l:Loc)(es:List CE):St->RE V:=
 List.rec (λZ=>.stuck) (λe r k s=>List.rec (ih.e e l s) (λZ Z Z=>(ih.e e l s).bind (orK k)) r) es
def yO(ih:Ev)(l:Loc)(e:CE)(s:St):RE Bool:=(ih.e e l s).bind λv s=>ofO s (gL s v)
def iP(ih:Ev)(l:Loc)(es:List CE):St->RE Bool:=
 List.rec (λs=>.ok true s) (λe Z k s=>(yO ih l e s).bind λb s=>sel b (k s) (.ok false s)) es
def jC(ih:Ev)(l:Loc)(elt:CE)(tg:Tg)(ifs:List CE)(vs:List V):St->RE (List V):=
 List.rec (λs=>.ok [] s) (λv Z k s=>eZ (put l tg v) λl'=>(iP ih l' ifs s).bind λb s=>sel b
  ((ih.e elt l' s).bind λx s=>(k s).bind λxs s=>.ok (x::xs) s) (k s)) vs
noncomputable def rF(n:Nat):Loc:=Nat.rec [] (λZ ih=>none::ih) n
def flV(f:Fl)(s:St):RE V:=Fl.rec (.ok .none s) .stuck (λv=>.ok v s) f
def RS.out(r:RS):RE V:=RS.rec (λf Z s=>flV f s) (λe Z s=>.exc e s) .stuck r
def aR(ih:Ev)(f:Fn)(vs:List V)(s:St):RE V:=
 sel (Nat.beq (bC vs) f.npar) (ih.b f.body (app (iK some vs) (rF (Nat.sub f.nloc f.npar))) s).out .stuck
def NF(v:V):Option (List Nat):=vS v (vI v none sM) some
noncomputable def YN(e:CE):CE:=match e with|.fmt e=>e|e=>e
def rC(ih:Ev)(l:Loc)(es:List CE):St->RE (List Nat):=
 List.rec (λs=>.ok [] s) (λe Z k s=>(ih.e (YN e) l s).bind λv s=>eZ (NF v) λx=>(k s).bind λy s=>.ok (app x y) s) es
def BR(s:St)(v:V):RE V:=vI v .stuck λi=>.ok (mkI (Int.neg i)) s
def aCD(s:St)(v:V):RE V:=vI v .stuck λi=>.ok (mkI (Int.sub (Int.neg i) 1)) s
def aCn(b:Bool)(s:St):RE V:=Bool.rec (.ok (.bool true) s) (.ok (.bool false) s) b
def lB(l:Loc)(s:St)(i:Nat):RE V:=eZ (nth l i) λx=>eZ x λv=>.ok v s
def aLd(ih:Ev)(l:Loc)(s:St)(op:BO)(a b:CE):RE V:=(ih.e a l s).bind λa s=>(ih.e b l s).bind λb s=>gA op a b s
def aLc(ih:Ev)(l:Loc)(s:St)(op:CO)(a b:CE):RE V:=(ih.e a l s).bind λa s=>(ih.e b l s).bind λb s=>okB s (cT s op a b)
def yD(x:Option Bool)(k:RE V)(s:St):RE V:=eZ x λb=>Bool.rec (.ok (.bool false) s) k b
def aIO(ih:Ev)(l:Loc)(s:St)(o1 o2:CO)(a b c:CE):RE V:=(ih.e a l s).bind λa s=>(ih.e b l s).bind λb s=>
 yD (cT s o1 a b) ((ih.e c l s).bind λc s=>okB s (cT s o2 b c)) s
def aLb(ih:Ev)(l:Loc)(s:St)(t a b:CE):RE V:=(yO ih l t s).bind λx s=>sel x (ih.e a l s) (ih.e b l s)
def kN(s:St)(o lo hi:V):RE V:=vR o (vF o .stuck
 λx=>vI lo .stuck λa=>vI hi .stuck λb=>eZ (pM a) λa=>eZ (pM b) λb=>sel (Nat.ble a b) (cZ s (AG (DA x a) (Nat.sub b a))) .stuck)
 λk=>vI lo .stuck λa=>vI hi .stuck λb=>aP s k .stuck λx=>eZ (pM a) λa=>eZ (pM b) λb=>sel (Nat.ble a b) (cZ s (AG (DA x a) (Nat.sub b a))) .stuck
def aK9(ih:Ev)(l:Loc)(s:St)(o i:CE):RE V:=(ih.e o l s).bind λo s=>(ih.e i l s).bind λi s=>ofO s (item s o i)
def aCS(ih:Ev)(l:Loc)(s:St)(o lo hi:CE):RE V:=(ih.e o l s).bind λo s=>(ih.e lo l s).bind λlo s=>(ih.e hi l s).bind λhi s=>kN s o lo hi
def TJ(ih:Ev)(l:Loc)(s:St)(m:ME)(o:CE)(args:List CE):RE V:=(ih.e o l s).bind λo s=>sel (iJ m o s) ((evs ih l args s).bind λvs s=>meth m o vs s) .stuck
def hY(ih:Ev)(l:Loc)(elt:CE)(tg:Tg)(ifs:List CE)(n:Nat)(k:Nat):Nat->St->RE (List V):=
 Nat.rec (λi s=>aP s n .stuck λls=>sel (Nat.beq (bC ls) i) (.ok [] s) .stuck)
  (λZ k i s=>aP s n .stuck λls=>eZ (nth ls i) λv=>eZ (put l tg v) λl'=>(iP ih l' ifs s).bind λb s=>sel b
   ((ih.e elt l' s).bind λx s=>(fN (Nat.succ i) k s).bind λxs s=>.ok (x::xs) s) (fN (Nat.succ i) k s)) k
def fL(l:List V):(List V->α)->α:=List.rec (λk=>k []) (λx Z ih k=>ih λr=>k (x::r)) l
def gM(ih:Ev)(l:Loc)(elt:CE)(tg:Tg)(ifs:List CE)(x:V)(s:St):RE (List V):=match x with
 |.ref n=>aP s n .stuck λls=>fL ls λls=>hY ih l elt tg ifs n (bC ls) 0 (bE s n (.list ls))
 |x=>eZ (items s x) λvs=>jC ih l elt tg ifs vs s
def jT(l:Loc)(i:Nat):Bool:=Option.rec true (λx=>Option.rec true (λZ=>false) x) (nth l i)
def lD(l:Loc)(is:List Nat):Bool:=List.rec true (λi Z k=>sel (jT l i) k false) is
def gI(l:Loc)(t:Tg):Bool:=match t with
 |.n i=>jT l i
 |.t is=>lD l is
def aIN(ih:Ev)(l:Loc)(s:St)(elt:CE)(tg:Tg)(src:CE)(ifs:List CE):RE V:=sel (gI l tg) ((ih.e src l s).bind λx s=>
 (gM ih l elt tg ifs x s).noExc.bind λxs s=>cZ s xs) .stuck
def excI(vs:List V)(s:St):RE V:=match vs with
 |.ref n::_=>match s.h.get n with
  |some (.exc _ _)=>.ok .none s
  |_=>.stuck
 |_=>.stuck
section
variable (ft:Nat->Fn) (gt:Nat->V) (it:Nat->Nat) (sup:Nat->Nat->Bool)
def aLa(ih:Ev)(l:Loc)(s:St)(c:Nat)(args:List CE):RE V:=(evs ih l args s).bind λvs s=>s.new (.inst c []) λn s=>(aR ih (ft (it c)) (.ref n::vs) s).bind λv s=>sel (iF v) (.ok (.ref n) s) .stuck
def YR(ih:Ev)(e:CE)(l:Loc)(s:St):RE V:=match e with
 |.c v=>.ok v s
 |.loc i=>lB l s i
 |.glo k=>.ok (gt k) s
 |.bin op a b=>aLd ih l s op a b
 |.neg a=>(ih.e a l s).bind λa s=>BR s a
 |.inv a=>(ih.e a l s).bind λa s=>aCD s a
 |.not a=>(yO ih l a s).bind aCn
 |.and es=>mD ih l es s
 |.or es=>orE ih l es s
 |.cmp op a b=>aLc ih l s op a b
 |.cmp2 o1 o2 a b c=>aIO ih l s o1 o2 a b c
 |.ife t a b=>aLb ih l s t a b
 |.call f args=>(evs ih l args s).bind (aR ih (ft f))
 |.new c args=>aLa ft it ih l s c args
 |.excinit args=>(evs ih l args s).bind excI
 |.bi b args=>(evs ih l args s).bind (bi b)
 |.meth m o args=>TJ ih l s m o args
 |.attr o a=>(ih.e o l s).bind λo s=>ofO s (tQ s o a)
 |.sub o i=>aK9 ih l s o i
 |.slice o lo hi=>aCS ih l s o lo hi
 |.lst es=>(evs ih l es s).bind λvs s=>cZ s vs
 |.tup es=>(evs ih l es s).bind λvs s=>sel (Nat.blt (bC vs) lim) (.ok (.tup vs) s) .stuck
 |.dict0=>s.new (.dict []) λn s=>.ok (.ref n) s
 |.comp elt tg src ifs=>aIN ih l s elt tg src ifs
 |.fstr es=>(rC ih l es s).bind λx s=>okS s x
 |.fmt _=>.stuck
def eG(k:Loc->St->RS)(r:RS):RS:=RS.rec (λf l s=>Fl.rec (k l s) (k l s) (λv=>.ok (.ret v) l s) f) .exc .stuck r
def hM(ih:Ev)(tg:Tg)(body:List CS)(vs:List V):Loc->St->RS:=
 List.rec (λl s=>.ok .next l s) (λv Z k l s=>eM (put l tg v) λl=>eG k (ih.b body l s)) vs
def fB(l:Loc)(x:Option St):RS:=Option.rec .stuck (λs=>.ok .next l s) x
def aJA(ih:Ev)(l:Loc)(s:St)(i:Nat)(op:BO)(e:CE):RS:=(lB l s i).bs l λa s=>(ih.e e l s).bs l λb s=>(iG op a b s).bs l λv s=>.ok .next (bZ l i (some v)) s
def aDJ(ih:Ev)(l:Loc)(s:St)(o:CE)(a:Nat)(op:BO)(e:CE):RS:=(ih.e o l s).bs l λo s=>eM (tQ s o a) λx=>
 (ih.e e l s).bs l λy s=>(iG op x y s).bs l λv s=>fB l (setA s o a v)
def aDI(ih:Ev)(l:Loc)(s:St)(o i:CE)(op:BO)(e:CE):RS:=(ih.e o l s).bs l λo s=>(ih.e i l s).bs l λi s=>eM (item s o i) λx=>
 (ih.e e l s).bs l λy s=>(iG op x y s).bs l λv s=>fB l (setItem s o i v)
def aDH(ih:Ev)(l:Loc)(s:St)(o:CE)(a:Nat)(e:CE):RS:=(ih.e e l s).bs l λv s=>(ih.e o l s).bs l λo s=>fB l (setA s o a v)
def aDG(ih:Ev)(l:Loc)(s:St)(o i e:CE):RS:=(ih.e e l s).bs l λv s=>(ih.e o l s).bs l λo s=>(ih.e i l s).bs l λi s=>fB l (setItem s o i v)
def sIf(ih:Ev)(l:Loc)(s:St)(t:CE)(a b:List CS):RS:=(yO ih l t s).bs l λx s=>sel x (ih.b a l s) (ih.b b l s)
def RS.noExc(r:RS):RS:=RS.rec .ok (λZ Z Z=>.stuck) .stuck r
def ET(ih:Ev)(l:Loc)(s:St)(t:CE)(b:List CS):RS:=(yO ih l t s).noExc.bs l λx s=>sel x (eG (ih.b [.whl t b]) (ih.b b l s).noExc) (.ok .next l s)
def fO(ih:Ev)(tg:Tg)(body:List CS)(n:Nat)(k:Nat):Nat->Loc->St->RS:=
 Nat.rec (λi l s=>aP s n .stuck λls=>sel (Nat.beq (bC ls) i) (.ok .next l s) .stuck)
  (λZ k i l s=>aP s n .stuck λls=>eM (nth ls i) λv=>eM (put l tg v) λl=>eG (fN (Nat.succ i) k) (ih.b body l s)) k
def vE(ih:Ev)(tg:Tg)(body:List CS)(x:V)(l:Loc)(s:St):RS:=match x with
 |.ref n=>aP s n .stuck λls=>fL ls λls=>fO ih tg body n (bC ls) 0 l (bE s n (.list ls))
 |x=>eM (items s x) λvs=>hM ih tg body vs l s
def aJy(ih:Ev)(l:Loc)(s:St)(t:Tg)(src:CE)(b:List CS):RS:=(ih.e src l s).bs l λx s=>vE ih t b x l s
def jL(n:Nat)(l:Loc)(s:St):RS:=match s.h.get n with
 |some (.exc _ _)=>.exc n l s
 |_=>.stuck
def St.newS(s:St)(o:O)(k:Nat->St->RS):RS:=fN s.n λn=>sel (Nat.blt n 1000) (k n ⟨s.h.upd o 10 n,Nat.succ n⟩) .stuck
def aCa(ih:Ev)(l:Loc)(s:St)(c:Nat)(args:List CE):RS:=(evs ih l args s).bs l λvs s=>s.newS (.exc c []) λn s=>(aR ih (ft (it c)) (.ref n::vs) s).noExc.bs l λv s=>sel (iF v) (jL n l s) .stuck
def RS.clr(i:Nat)(r:RS):RS:=RS.rec (λf l s=>.ok f (bZ l i none) s) (λe l s=>.exc e (bZ l i none) s) .stuck r
def gG(ih:Ev)(c:Nat)(nm:Option Nat)(h:List CS)(e:Nat)(l:Loc)(s:St):RS:=match s.h.get e with
 |some (.exc k _)=>sel (sup k c) (Option.rec (ih.b h l s) (λi=>(ih.b h (bZ l i (some (.ref e))) s).clr i) nm) .stuck
 |_=>.stuck
def aJx(ih:Ev)(l:Loc)(s:St)(b:List CS)(c:Nat)(nm:Option Nat)(h:List CS):RS:=RS.rec .ok (gG sup ih c nm h) .stuck (ih.b b l s)
def stepS(ih:Ev)(c:CS)(l:Loc)(s:St):RS:=match c with
 |.asg t e=>(ih.e e l s).bs l λv s=>eM (put l t v) λl=>.ok .next l s
 |.setA o a e=>aDH ih l s o a e
 |.setI o i e=>aDG ih l s o i e
 |.aug i op e=>aJA ih l s i op e
 |.augA o a op e=>aDJ ih l s o a op e
 |.augI o i op e=>aDI ih l s o i op e
 |.ex e=>(ih.e e l s).bs l λv s=>sel (iF v) (.ok .next l s) .stuck
 |.ret e=>(ih.e e l s).bs l λv s=>.ok (.ret v) l s
 |.ifs t a b=>sIf ih l s t a b
 |.whl t b=>ET ih l s t b
 |.for t src b=>aJy ih l s t src b
 |.raise c args=>aCa ft it ih l s c args
 |.try b c nm h=>aJx sup ih l s b c nm h
 |.cont=>.ok .cont l s
def dY(k:Loc->St->RS)(r:RS):RS:=RS.rec (λf l s=>Fl.rec (k l s) (.ok .cont l s) (λv=>.ok (.ret v) l s) f) .exc .stuck r
def stepB(ih:Ev)(b:List CS)(l:Loc)(s:St):RS:=
 List.rec (.ok .next l s) (λc r Z=>dY (ih.b r) (stepS ft it sup ih c l s)) b
def ev(n:Nat):Ev:=Nat.rec ⟨λZ Z Z=>.stuck,λZ Z Z=>.stuck⟩ (λZ ih=>⟨YR ft gt it ih,stepB ft it sup ih⟩) n
end
end Mine.Internal
end
noncomputable section
open PySem PySem.W PyProof.Rows PySem.Calls
namespace Mine.Internal
variable {α:Type}{n:Nat}{xs:List Value}
structure Gh where
 φ:List (Addr×Option Addr)
 tups:List (Addr×List Value)
 rngs:List (Addr×Int×Int×Int)
 excs:List Nat
 fz:List (Addr×List Value)
variable {G:Gh}
def Gh.Le(G G':Gh):Prop:=
 (∀(n:Nat) a d,G.φ[n]? = some (a,d)->∃d',G'.φ[n]? = some (a,d'))/\(∀t∈G.tups,t∈G'.tups)/\(∀t∈G.rngs,t∈G'.rngs)/\(∀n∈G.excs,n∈G'.excs)/\(∀n∈G'.excs,n∈G.excs\/G.φ.length<=n)/\(∀t∈G.fz,t∈G'.fz)
def Gh.LeW(G G':Gh):Prop:=
 (∀(n:Nat) a d,G.φ[n]? = some (a,d)->∃d',G'.φ[n]? = some (a,d'))/\(∀t∈G.tups,t∈G'.tups)/\(∀t∈G.rngs,t∈G'.rngs)/\(∀n∈G.excs,n∈G'.excs)/\(∀t∈G.fz,t∈G'.fz)
theorem Gh.Le.w{G G':Gh}(h:G.Le G'):G.LeW G':=⟨h.1,h.2.1,h.2.2.1,h.2.2.2.1,h.2.2.2.2.2⟩
theorem Gh.Le.refl(G:Gh):G.Le G:=⟨λZ Z d e=>⟨d,e⟩,λZ h=>h,λZ h=>h,λZ h=>h,λZ h=>.inl h,λZ h=>h⟩
theorem Gh.Le.len{G G':Gh}(x:G.Le G'):G.φ.length<=G'.φ.length:=by
 rcases Nat.lt_or_ge G'.φ.length G.φ.length with q|q;.exfalso;exact e11 (x.1 G'.φ.length (G.φ[G'.φ.length]).1 (G.φ[G'.φ.length]).2 (aLN q)) λd e=>absurd (List.getElem?_eq_some_iff.mp e).1 (Nat.lt_irrefl _)
 .exact q
theorem Gh.Le.trans{bB eS eV:Gh}(x:bB.Le eS)(y:eS.Le eV):bB.Le eV:=
 ⟨λn a d e=>let ⟨_,e'⟩:=x.1 n a d e;y.1 n a _ e',λt h=>y.2.1 t (x.2.1 t h),λt h=>y.2.2.1 t (x.2.2.1 t h),λt h=>y.2.2.2.1 t (x.2.2.2.1 t h),λn h=>by
  refine aLJ λaA=>?_;rcases y.2.2.2.2.1 n h with q|q;.exact aA (x.2.2.2.2.1 n q)
  .refine aA ?_;exact .inr (aL1 x.len q),λt h=>y.2.2.2.2.2 t (x.2.2.2.2.2 t h)⟩
mutual
inductive VR(G:Gh):V->Value->Prop where
 |none:VR G .none .none
 |bool (b):VR G (.bool b) (.bool b)
 |int (i t):VR G (.int i) (.int i t)
 |str (l t):l.length<=1000000->VR G (.str l) (.str ⟨l.toArray⟩ t)
 |ref {n a d}:G.φ[n]? = some (a,d)->VR G (.ref n) (.ref a)
 |tup {l a xs}:(a,xs)∈G.tups->VRs G l xs->l.length<=1000000->VR G (.tup l) (.ref a)
 |rng {x y z a}:(a,x,y,z)∈G.rngs->VR G (.rng x y z) (.ref a)
 |frz {l a xs}:(a,xs)∈G.fz->VRs G l xs->l.length<=1000000->VR G (.frz l) (.ref a)
inductive VRs(G:Gh):List V->List Value->Prop where
 |nil:VRs G [] []
 |cons {v l x xs}:VR G v x->VRs G l xs->VRs G (v::l) (x::xs)
end
@[elab_as_elim] theorem VRs.ind{motive:(l:List V)->(xs:List Value)->VRs G l xs->Prop}{l xs}(h:VRs G l xs)(nil:motive [] [] .nil)(cons:∀{v x l xs}(a:VR G v x) (r:VRs G l xs),motive l xs r->motive (v::l) (x::xs) (.cons a r)):motive l xs h:=
 VRs.rec (motive_1:=λZ Z Z=>True) (motive_2:=motive) trivial (λZ=>trivial) (λZ Z=>trivial) (λZ Z Z=>trivial) (λZ=>trivial) (λZ Z Z Z=>trivial) (λZ=>trivial)
  (λZ Z Z Z=>trivial) nil (λa r Z ih=>cons a r ih) h
theorem VR.monoW{G G':Gh}(h:G.LeW G'){v x}(r:VR G v x):VR G' v x:=
 VR.rec (motive_1:=λv x Z=>VR G' v x) (motive_2:=λl xs Z=>VRs G' l xs) .none .bool .int .str (λe=>(h.1 _ _ _ e).elim λZ e'=>.ref e') (λm Z q r=>.tup (h.2.1 _ m) r q)
  (λm=>.rng (h.2.2.1 _ m)) (λm Z q r=>.frz (h.2.2.2.2 _ m) r q) .nil (λZ Z a r=>.cons a r) r
theorem VRs.monoW{G G':Gh}(h:G.LeW G'){l xs}(r:VRs G l xs):VRs G' l xs:=r.ind .nil λa Z r=>.cons (a.monoW h) r
theorem VRs.of_cons{v:V}{l:List V}{P:Prop}(h:VRs G (v::l) xs)(k:∀x ys,xs=x::ys->VR G v x->VRs G l ys->P):P:=by cases h with|cons a r=>exact k _ _ rfl a r
theorem VRs.of_nil(h:VRs G [] xs):xs=[]:=by cases h;rfl
theorem VR.mono{G G':Gh}(h:G.Le G'){v x}(r:VR G v x):VR G' v x:=r.monoW h.w
theorem VRs.mono{G G':Gh}(h:G.Le G'){l xs}(r:VRs G l xs):VRs G' l xs:=r.monoW h.w
theorem VRs.length{l xs}(h:VRs G l xs):l.length=xs.length:=h.ind rfl λZ Z e=>congrArg (· + 1) e
theorem VRs.app{l xs l' xs'}(h:VRs G l xs)(r:VRs G l' xs'):VRs G (Internal.app l l') (xs++xs'):=h.ind r λa Z q=>.cons a q
theorem VRs.get{l xs}(h:VRs G l xs){i v}(e:nth l i=some v):∃x,xs[i]? = some x/\VR G v x:=by
 induction h using VRs.ind generalizing i with
 |nil=>cases e
 |cons a r ih=>
  cases i with
  |zero=>cases e;exact⟨_,rfl,a⟩
  |succ j=>exact ih (i:=j) e
theorem VRs.set{l xs}(h:VRs G l xs){i v x}(q:VR G v x):VRs G (bZ l i v) (xs.set i x):=by
 induction h using VRs.ind generalizing i with
 |nil=>exact .nil
 |cons a r ih=>
  cases i with
  |zero=>exact .cons q r
  |succ j=>exact .cons a (ih (i:=j))
theorem VRs.rep{v x}(h:VR G v x):∀n,VRs G (NP v n) (List.replicate n x):=by
 intro x9;induction x9 with
 |zero=>exact .nil
 |succ n aQ=>exact .cons h (aQ)
theorem aD:∀l:List α,bC l=l.length:=by
 intro x9;induction x9 with
 |nil=>exact rfl
 |cons _ l aQ=>exact congrArg Nat.succ (aQ)
theorem cI:∀a b:List α,app a b=a++b:=by
 intro x9;induction x9 with
 |nil=>intro _;exact rfl
 |cons x l aQ=>intro b;exact congrArg (x::·) (aQ b)
theorem aI(x y:α):sel true x y=x:=rfl
theorem cK(x y:α):sel false x y=y:=rfl
structure Tab where
 ca:Nat->Addr
 an:Nat->Str
 fn:Nat->Str
 cn:Nat->Str
 gn:Nat->Str
 ng:Nat
 nf:Nat
 nx:Nat
 nc:Nat
 na:Nat
 an_inj:∀i j,i<100->j<100->an i=an j->i=j
noncomputable abbrev dZ(xs:List Value)(n:Nat):Obj:={ cls:=.type "list",dict:=none,data:=.seq xs.toArray n,slots:=#[] }
def dT(h:Heap)(a:Addr)(xs:List Value):Prop:=∃n,h.get? a=some (dZ xs n)
theorem dT.isList{h:Heap}{a xs}(x:dT h a xs):h.IsList a xs.toArray:=let ⟨n,h1⟩:=x;⟨_,h1,rfl,n,rfl⟩
theorem dT.at{h h':Heap}{a xs}(x:dT h a xs)(k:∀o,h.get? a=some o->h'.get? a=some o):dT h' a xs:=let ⟨n,h1⟩:=x;⟨n,k _ h1⟩
def NsN(h:Heap)(a:Addr)(m:Str->Option Value)(n:Nat):Prop:=∃o es ep,h.get? a=some o/\o.data=.dict es ep/\StrKeys es/\(∀name,nsFind es name=m name)/\es.size<=n
theorem NsN.ns{h a m n}(x:NsN h a m n):h.Ns a m:=let ⟨o,es,ep,h1,h2,h3,h4,_⟩:=x;⟨o,es,ep,h1,h2,h3,h4⟩
theorem NsN.at'{h h':Heap}{a m n}(x:NsN h a m n)(k:∀o,h.get? a=some o->h'.get? a=some o):NsN h' a m n:=let ⟨o,es,ep,h1,r⟩:=x;⟨o,es,ep,k _ h1,r⟩
def dG(T:Tab)(G:Gh)(m:Str->Option Value)(fs:List (Nat×V)):Prop:=∀a v,fF fs a=some v->a<100/\∃x,m (T.an a)=some x/\VR G v x
noncomputable def bS(l:List Nat):Str:=⟨l.toArray⟩
inductive hZ(prog:Program)(w:World)(G:Gh):List (List Nat×V)->List (Str×Value)->Prop where
 |nil:hZ prog w G [] []
 |cons {k v l x xs}:k.length<=1000000->VR G v x->hZ prog w G l xs->hZ prog w G ((k,v)::l) ((bS k,x)::xs)
def OR(prog:Program)(w:World)(T:Tab)(G:Gh)(k:Nat)(h:Heap)(ad:Addr×Option Addr):O->Prop
 |.list l=>ad.2=none/\∃xs,dT h ad.1 xs/\VRs G l xs/\l.length<=1000000
 |.inst c fs=>(T.nx<=c/\c<T.nc)/\∃ox d m,h.get? ad.1=some ox/\ox.cls=.ref (T.ca c)/\ad.2=some d/\ox.dict=some d/\ox.data=.plain/\NsN h d m fs.length/\dG T G m fs/\fs.length<=100000
 |.dict kvs=>ad.2=none/\∃es ep,h.DictAt (strKind prog w) ad.1 es ep/\hZ prog w G kvs es/\kvs.length<=1000000/\ad.1≠sysModules
 |.exc c fs=>c<T.nx/\∃ox vs,h.get? ad.1=some ox/\ox.cls=.ref (T.ca c)/\ox.dict=ad.2/\ox.data=.fields vs/\vs.size=6/\
  ((vs[2]? = some .none\/∃k' a' d',k'<k/\k'∈G.excs/\G.φ[k']? = some (a',d')/\vs[2]? = some (.ref a'))/\(k∈G.excs\/vs[1]? = some .none))/\
  (match ad.2 with|none=>fs=[]|some d=>∃m,NsN h d m fs.length/\dG T G m fs/\fs.length<=100000)
noncomputable def bD(ad:Addr×Option Addr):List Addr:=ad.1::ad.2.toList
structure aI1(φ:List (Addr×Option Addr)):Prop where
 one:∀(n:Nat) a d,φ[n]? = some (a,some d)->a≠d
 two:∀(i j:Nat) ad ad' x,φ[i]? = some ad->φ[j]? = some ad'->x∈bD ad->x∈bD ad'->i=j
structure Kit where
 prog:Program
 w:World
 T:Tab
 B:Heap
 os:OsState
 K:Frag
 G0:Gh
 mg:Str->Option Value
 mb:Str->Option Value
 ft:Nat->Fn
 gt:Nat->V
 it:Nat->Nat
 sup:Nat->Nat->Bool
 tk:Nat
abbrev Kit.ev(k:Kit)(n:Nat):Ev:=Internal.ev k.ft k.gt k.it k.sup n
noncomputable abbrev Kit.M(k:Kit):Model:=model k.prog k.w
structure Inv(k:Kit)(P:List (Addr×Obj))(G:Gh)(σ:St)(s:Shared):Prop where
 g0:k.G0.Le G
 gens:s.gens = #[]
 os:s.os=k.os
 tk:k.tk<=s.toks
 base:∀b o,k.B.get? b=some o->s.heap.get? b=some o
 pins:∀p∈P,∃sl,s.heap.get? p.1=some { p.2 with slots:=sl }/\((∀es n,p.2.data≠.dict es n)->sl=p.2.slots)
 pinsB:∀p∈P,k.B.get? p.1=none
 pinsK:∀p∈P,p.2.cls≠.type "traceback"\/∀vs,p.2.data≠.fields vs
 size:σ.n=G.φ.length
 few:σ.n<=1000
 objs:∀n o,σ.h.get n=some o->∃ad,G.φ[n]? = some ad/\OR k.prog k.w k.T G n s.heap ad o
 full:∀(n:Nat) ad,G.φ[n]? = some ad->∃o,σ.h.get n=some o
 apart:aI1 G.φ
 own:∀(n:Nat) ad,G.φ[n]? = some ad->∀x∈bD ad,k.B.get? x=none/\(∀p∈P,p.1≠x)/\∃o,s.heap.get? x=some o
 tups:∀t∈G.tups,s.heap.IsTuple t.1 t.2.toArray
 rngs:∀t∈G.rngs,∃a b c,IsRange s.heap t.1 t.2.1 t.2.2.1 t.2.2.2 a b c
 excs:∀n∈G.excs,∃c fs,σ.h.get n=some (.exc c fs)
 fz:∀t∈G.fz,k.B.IsList t.1 t.2.toArray
theorem dG.monoW{T:Tab}{G G':Gh}{m fs}(h:G.LeW G')(x:dG T G m fs):dG T G' m fs:=λa v e=>let ⟨h0,y,h1,h2⟩:=x a v e;⟨h0,y,h1,h2.monoW h⟩
theorem dG.mono{T:Tab}{G G':Gh}{m fs}(h:G.Le G')(x:dG T G m fs):dG T G' m fs:=x.monoW h.w
theorem hZ.monoW{prog w}{G G':Gh}(h:G.LeW G'){l es}(x:hZ prog w G l es):hZ prog w G' l es:=
 x.rec (motive:=λl es Z=>hZ prog w G' l es) .nil λa b Z r=>.cons a (b.monoW h) r
theorem hZ.mono{prog w}{G G':Gh}(h:G.Le G'){l es}(x:hZ prog w G l es):hZ prog w G' l es:=x.monoW h.w
theorem OR.atW{prog w T}{G G':Gh}{h h':Heap}{ad:Addr×Option Addr}{o:O}(hG:G.LeW G')(x:OR prog w T G n h ad o)(k:∀a∈bD ad,∀ob,h.get? a=some ob->h'.get? a=some ob):OR prog w T G' n h' ad o:=by
 have k1:∀ob,h.get? ad.1=some ob->h'.get? ad.1=some ob:=k ad.1 (aLQ _);cases o with
 |list l=>obtain⟨h1,xs,h2,h3,h4⟩:=x;exact⟨h1,xs,h2.at k1,h3.monoW hG,h4⟩
 |inst c fs=>refine aLJ λaA=>?_;obtain⟨h0,ox,d,m,h1,h2,h3,h4,h5,h6,h7,hl⟩:=x;exact aA ⟨h0,ox,d,m,k1 _ h1,h2,h3,h4,h5,h6.at' (k d (by simp[bD,h3])),h7.monoW hG,hl⟩
 |dict kvs=>obtain⟨h1,es,ep,h2,h3,h4⟩:=x;exact⟨h1,es,ep,h2.at' k1,h3.monoW hG,h4⟩
 |exc c fs=>
  obtain⟨h0,ox,vs,h1,h2,h3,h4,h5,h6,h7⟩:=x;refine⟨h0,ox,vs,k1 _ h1,h2,h3,h4,h5,?_,?_⟩
  .refine e02 h6 λh6 hc=>⟨(aLJ λaA=>?_),hc.imp (hG.2.2.2.1 _) id⟩;rcases h6 with h6|⟨k',a',d',h6,hx,h8,h9⟩;.exact aA (.inl h6)
   .exact e11 (hG.1 _ _ _ h8) λd'' h10=>aA (.inr ⟨k',a',d'',h6,hG.2.2.2.1 _ hx,h10,h9⟩)
  .obtain⟨a,d⟩:=ad;cases d with
   |none=>exact h7
   |some d=>obtain⟨m,h8,h9,hl⟩:=h7;exact⟨m,h8.at' (k d (by simp[bD])),h9.monoW hG,hl⟩
theorem OR.at{prog w T}{G G':Gh}{h h':Heap}{ad:Addr×Option Addr}{o:O}(hG:G.Le G')(x:OR prog w T G n h ad o)(k:∀a∈bD ad,∀ob,h.get? a=some ob->h'.get? a=some ob):OR prog w T G' n h' ad o:=x.atW hG.w k
theorem Inv.keeps{k P G σ}{s s':Shared}(I:Inv k P G σ s)(hg:s'.gens=s.gens)(ho:s'.os=s.os)(hk:∀b o,s.heap.get? b=some o->s'.heap.get? b=some o)(ht:s.toks<=s'.toks:=by walk_at "t"):Inv k P G σ s' where
 g0:=I.g0
 gens:=hg.trans I.gens
 os:=ho.trans I.os
 tk:=aL1 I.tk ht
 base:=λb o e=>hk _ _ (I.base b o e)
 pins:=λp hp=>e12 (I.pins p hp) λsl e q=>⟨sl,hk _ _ e,q⟩
 pinsB:=I.pinsB
 pinsK:=I.pinsK
 size:=I.size
 few:=I.few
 objs:=λn o e=>e12 (I.objs n o e) λad h1 h2=>⟨ad,h1,h2.at (.refl G) λa Z ob q=>hk _ _ q⟩
 full:=I.full
 apart:=I.apart
 own:=λn ad e x hx=>let ⟨h1,h2,o,h3⟩:=I.own n ad e x hx;⟨h1,h2,o,hk _ _ h3⟩
 tups:=λt ht=>(I.tups t ht).at λo e=>hk _ _ e
 rngs:=λt ht=>e31 (I.rngs t ht) λa b c r=>⟨a,b,c,hk _ _ r⟩
 excs:=I.excs
 fz:=I.fz
theorem Tr.get_nil(i:Nat):Tr.get .nil i=none:=rfl
theorem Tr.br(a b c:α)(i:Nat):(Bool.rec (Bool.rec c b (Nat.beq (i % 2) 1)) a (Nat.beq i 0):α)=if i=0 then a else if i % 2=1 then b else c:=by
 by_cases h:i=0;.subst h;rfl
 .have h1:Nat.beq i 0=false:=by cases i with|zero=>exact absurd rfl h|succ n=>rfl
  refine rwl (h1 ..) (rwl (if_neg h ..) ?_);by_cases q:i % 2=1;.rw[if_pos q,q];rfl
  .have h2:Nat.beq (i % 2) 1=false:=by have:i % 2=0:=aEf q;rw[this];rfl
   exact rwl (if_neg q ..) (rwl (h2 ..) rfl)
theorem Tr.get_node(v l r)(i:Nat):Tr.get (.node v l r) i=if i=0 then v else if i % 2=1 then l.get (i / 2) else r.get (i / 2-1):=Tr.br _ _ _ _
theorem Tr.upd_zero(o t i):Tr.upd o 0 t i=t:=rfl
theorem Tr.upd_node(o)(f:Nat)(v l r)(i:Nat):Tr.upd o (f+1) (.node v l r) i=if i=0 then .node (some o) l r else if i % 2=1 then .node v (Tr.upd o f l (i / 2)) r else .node v l (Tr.upd o f r (i / 2-1)):=Tr.br _ _ _ _
theorem Tr.upd_nil(o)(f i:Nat):Tr.upd o (f+1) .nil i=if i=0 then .node (some o) .nil .nil else if i % 2=1 then .node none (Tr.upd o f .nil (i / 2)) .nil else .node none .nil (Tr.upd o f .nil (i / 2-1)):=Tr.br _ _ _ _
theorem Tr.get_nn(j:Nat):Tr.get (.node none .nil .nil) j=none:=by
 rw[Tr.get_node];split;.rfl
 .split<;>rfl
theorem Tr.get_updN{o:O}{f:Nat}(ih:∀(t:Tr) (i j:Nat),i+1<2 ^ f->(Tr.upd o f t i).get j=if j=i then some o else t.get j)(v l r)(i j:Nat)(h:i+1<2 ^ (f+1)):(Tr.upd o (f+1) (.node v l r) i).get j=if j=i then some o else (Tr.node v l r).get j:=by
 refine rwl (Tr.upd_node ..) ?_;by_cases h0:i=0
 .rw[if_pos h0,Tr.get_node];by_cases j0:j=0;.rw[if_pos j0,if_pos (aFP h0 j0)]
  .exact rwl (if_neg j0 ..) (rwl (if_neg (aFO h0 j0) ..) (rwl (Tr.get_node ..) (rwl (if_neg j0 ..) rfl)))
 .rw[if_neg h0];by_cases q:i % 2=1
  .rw[if_pos q,Tr.get_node];by_cases j0:j=0;.rw[if_pos j0,if_neg (aGO q j0),Tr.get_node,if_pos j0]
   .refine rwl (if_neg j0 ..) (rwl (Tr.get_node ..) (rwl (if_neg j0 ..) ?_));by_cases p:j % 2=1
    .refine rwl (if_pos p ..) (rwl (if_pos p ..) (rwl (ih _ _ _ (aGF h q) ..) ?_));by_cases e:j=i;.rw[if_pos e,if_pos (aFB e)]
     .exact rwl (if_neg e ..) (rwl (if_neg (aGP q p e) ..) rfl)
    .exact rwl (if_neg p ..) (rwl (if_neg p ..) (rwl (if_neg (aGN q p) ..) rfl))
  .rw[if_neg q,Tr.get_node];by_cases j0:j=0;.rw[if_pos j0,if_neg (aFf h0 j0),Tr.get_node,if_pos j0]
   .rw[if_neg j0,Tr.get_node,if_neg j0];by_cases p:j % 2=1;.exact rwl (if_pos p ..) (rwl (if_pos p ..) (rwl (if_neg (aFl q p) ..) rfl))
    .refine rwl (if_neg p ..) (rwl (if_neg p ..) (rwl (ih _ _ _ (aGE h h0) ..) ?_));by_cases e:j=i;.rw[if_pos e,if_pos (aFC e)]
     .rw[if_neg e,if_neg (aFe h0 q j0 p e)]
theorem Tr.get_upd(o:O)(f:Nat):∀(t:Tr) (i j:Nat),i+1<2 ^ f->(Tr.upd o f t i).get j=if j=i then some o else t.get j:=by
 induction f with
 |zero=>intro t i j h;simp at h
 |succ f ih=>
  intro t i j h;cases t with
  |nil=>exact(Tr.get_updN ih none .nil .nil i j h).trans (by rw[Tr.get_nn];rfl)
  |node v l r=>exact Tr.get_updN ih v l r i j h
structure uQ(k:Kit)(P:List (Addr×Obj))(G:Gh)(h:Heap)(a:Addr):Prop where
 base:k.B.get? a=none
 pins:∀p∈P,p.1≠a
 own:∀(n:Nat) ad,G.φ[n]? = some ad->a∉bD ad
 kind:∀o,h.get? a=some o->(o.cls≠.type "tuple"\/∀xs n,o.data≠.seq xs n)/\(o.cls≠.type "range"\/∀vs,o.data≠.fields vs)
theorem uQ.tup{k P G h a}(x:uQ k P G h a){t xs}(ht:h.IsTuple t xs):t≠a:=by
 rintro rfl;obtain⟨o,ho,hc,n,hd⟩:=ht;rcases(x.kind o ho).1 with q|q;.exact q hc
 .exact q _ _ hd
theorem uQ.rng{k P G h a}(x:uQ k P G h a){r i j l u v w}(hr:IsRange h r i j l u v w):r≠a:=by
 rintro rfl;rcases(x.kind _ hr).2 with q|q;.exact q rfl
 .exact q _ rfl
theorem Inv.loose{k P G σ}{s s':Shared}(I:Inv k P G σ s){a:Addr}(x:uQ k P G s.heap a)(hg:s'.gens=s.gens)(ho:s'.os=s.os)(hk:∀b o,b≠a->s.heap.get? b=some o->s'.heap.get? b=some o)(ht:s.toks<=s'.toks:=by walk_at "t"):Inv k P G σ s' where
 g0:=I.g0
 gens:=hg.trans I.gens
 os:=ho.trans I.os
 tk:=aL1 I.tk ht
 base:=λb o e=>hk _ _ (λq=>by rw[q,x.base]at e;cases e) (I.base b o e)
 pins:=λp hp=>e12 (I.pins p hp) λsl e q=>⟨sl,hk _ _ (x.pins p hp) e,q⟩
 pinsB:=I.pinsB
 pinsK:=I.pinsK
 size:=I.size
 few:=I.few
 objs:=λn o e=>e12 (I.objs n o e) λad h1 h2=>⟨ad,h1,h2.at (.refl G) λb hb ob q=>hk _ _ (λz=>x.own n ad h1 (z▸hb)) q⟩
 full:=I.full
 apart:=I.apart
 own:=λn ad e b hb=>let ⟨h1,h2,o,h3⟩:=I.own n ad e b hb;⟨h1,h2,o,hk _ _ (λz=>x.own n ad e (z▸hb)) h3⟩
 tups:=λt ht=>(I.tups t ht).at λo e=>hk _ _ (x.tup (I.tups t ht)) e
 rngs:=λt ht=>e31 (I.rngs t ht) λa b c r=>⟨a,b,c,hk _ _ (x.rng r) r⟩
 excs:=I.excs
 fz:=I.fz
theorem OR.kind{prog w T}{h:Heap}{ad:Addr×Option Addr}{o:O}(x:OR prog w T G n h ad o):
 ∀a∈bD ad,∀ob,h.get? a=some ob->(ob.cls≠.type "tuple"\/∀xs n,ob.data≠.seq xs n)/\(ob.cls≠.type "range"\/∀vs,ob.data≠.fields vs):=by
 obtain⟨UA,aLf⟩:=ad;intro a ha ob hob;have nsk:∀{d m q},NsN h d m q->a=d->(ob.cls≠.type "tuple"\/∀xs n,ob.data≠.seq xs n)/\(ob.cls≠.type "range"\/∀vs,ob.data≠.fields vs):=by rintro d m q ⟨o,es,ep,e,hd,_⟩ rfl;rw[e]at hob;cases hob;exact⟨.inr λxs n q=>(by rw[hd]at q;cases q),.inr λvs q=>(by rw[hd]at q;cases q)⟩
 refine aLJ λaA=>?_;cases o with
 |list l=>
  obtain⟨h1,xs,t29,_⟩:=x;obtain⟨n,e⟩:=t29;subst h1;have:a=UA:=by simpa [bD] using ha
  subst this;dsimp only at e;rw[e]at hob;cases hob;exact aA ⟨.inl (λq=>by injection q with q;revert q;decide),.inr λvs q=>(by cases q)⟩
 |inst c fs=>
  obtain⟨_,ox,d,m,e,hc,h3,h4,h5,h6,_⟩:=x;cases h3;rcases(by simpa [bD] using ha:a=UA\/a=d) with q|q;.subst q;dsimp only at e;rw[e]at hob;cases hob;exact aA ⟨.inl (by rw[hc];intro q;cases q),.inl (by rw[hc];intro q;cases q)⟩
  .exact aA (nsk h6 q)
 |dict kvs=>
  refine aA (aLJ λaA=>?_);obtain⟨h1,es,ep,AH,_⟩:=x;refine e24 AH λo es' e hx hd u59=>?_;subst h1;have:a=UA:=by simpa [bD] using ha
  subst this;dsimp only at e;rw[e]at hob;cases hob;exact aA ⟨.inr λxs n q=>(by rw[hd]at q;cases q),.inr λvs q=>(by rw[hd]at q;cases q)⟩
 |exc c fs=>
  obtain⟨_,ox,vs,e,hc,h3,h4,h5,h6,h7⟩:=x;cases aLf with
  |none=>
   have:a=UA:=by simpa [bD] using ha
   subst this;dsimp only at e;rw[e]at hob;cases hob;exact aA ⟨.inl (by rw[hc];intro q;cases q),.inl (by rw[hc];intro q;cases q)⟩
  |some d=>
   obtain⟨m,h8,_⟩:=h7;rcases(by simpa [bD] using ha:a=UA\/a=d) with q|q;.subst q;dsimp only at e;rw[e]at hob;cases hob;exact aA ⟨.inl (by rw[hc];intro q;cases q),.inl (by rw[hc];intro q;cases q)⟩
   .exact aA (nsk h8 q)
theorem Inv.setObj{k P G σ}{s s':Shared}(I:Inv k P G σ s){o o':O}{ad:Addr×Option Addr}(hn:σ.h.get n=some o)(had:G.φ[n]? = some ad)(hlt:n+1<2 ^ 10)(hg:s'.gens=s.gens)(ho:s'.os=s.os)(hk:∀b ob,b∉bD ad->s.heap.get? b=some ob->s'.heap.get? b=some ob)(hx:OR k.prog k.w k.T G n s'.heap ad o')(hl:∀b∈bD ad,∃ob,s'.heap.get? b=some ob)(hxc:n∈G.excs->∃c fs,o'=.exc c fs)(ht:s.toks<=s'.toks:=by walk_at "t"):Inv k P G (bE σ n o') s':=by
 refine e12 (I.objs n o hn) λoZ FW hor=>?_;obtain rfl:oZ=ad:=aLP (FW.symm.trans had);have kd:=hor.kind;have nb:∀b,(∃p∈P,p.1=b)->b∉bD oZ:=λb ⟨p,hp,e⟩ hb=>(I.own n _ had b hb).2.1 p hp e;have nt:∀t xs,s.heap.IsTuple t xs->t∉bD oZ:=λt xs ⟨ob,e,hc,m,hd⟩ hb=>by
  rcases(kd t hb ob e).1 with q|q;.exact q hc
  .exact q _ _ hd
 have nr:∀r i j l u v w,IsRange s.heap r i j l u v w->r∉bD oZ:=λr i j l u v w e hb=>by
  rcases(kd r hb _ e).2 with q|q;.exact q rfl
  .exact q _ rfl
 have nn:∀(m:Nat) ad',G.φ[m]? = some ad'->m≠n->∀b∈bD ad',b∉bD oZ:=λm ad' e hm b hb hb'=>hm (I.apart.two m n ad' oZ b e had hb hb');have full':∀(m:Nat) ad',G.φ[m]? = some ad'->∃om,(bE σ n o').h.get m=some om:=by
  intro m ad' e;rw[bE,Tr.get_upd _ _ _ _ _ hlt];by_cases q:m=n;.exact⟨o',by rw[if_pos q]⟩
  .rw[if_neg q];exact I.full m ad' e
 refine⟨I.g0,hg.trans I.gens,ho.trans I.os,aL1 I.tk ht,λb ob e=>hk _ _ (λhb=>by rw[(I.own n _ had b hb).1]at e;cases e) (I.base b ob e),λp hp=>?_,I.pinsB,I.pinsK,I.size,I.few,λm om e=>?_,full',I.apart,λm ad' e b hb=>?_,λt ht=>?_,λt ht=>?_,λm hm=>?_,I.fz⟩;.obtain⟨sl,e,q⟩:=I.pins p hp;exact⟨sl,hk _ _ (nb _ ⟨p,hp,rfl⟩) e,q⟩
 .rw[bE,Tr.get_upd _ _ _ _ _ hlt]at e;by_cases q:m=n;.rw[if_pos q]at e;cases e;subst q;exact⟨_,had,hx⟩
  .replace e:=(if_neg q)▸e;refine e12 (I.objs m om e) λad' h1 h2=>?_;exact⟨ad',h1,h2.at (.refl G) λb hb ob z=>hk _ _ (nn m ad' h1 q b hb) z⟩
 .obtain⟨h1,h2,ob,h3⟩:=I.own m ad' e b hb;refine⟨h1,h2,?_⟩;refine aLJ λaA=>?_;by_cases q:m=n;.subst q;obtain rfl:oZ=ad':=aLP (had.symm.trans e);exact aA (hl b hb)
  .exact aA ⟨ob,hk _ _ (nn m ad' e q b hb) h3⟩
 .exact(I.tups t ht).at λob e=>hk _ _ (nt _ _ (I.tups t ht)) e
 .obtain⟨a,b,c,r⟩:=I.rngs t ht;exact⟨a,b,c,hk _ _ (nr _ _ _ _ _ _ _ r) r⟩
 .rw[bE,Tr.get_upd _ _ _ _ _ hlt];by_cases q:m=n;.subst q;obtain⟨c,fs,e⟩:=hxc hm;exact⟨c,fs,by rw[if_pos rfl,e]⟩
  .rw[if_neg q];exact I.excs m hm
noncomputable def Gh.push(G:Gh)(ad:Addr×Option Addr):Gh:={ G with φ:=G.φ++[ad] }
theorem Gh.le_push(G:Gh)(ad):G.Le (G.push ad):=
 ⟨λn a d e=>⟨d,by rw[Gh.push,aL9 (List.getElem?_eq_some_iff.mp e).1];exact e⟩,λZ h=>h,λZ h=>h,λZ h=>h,λZ h=>.inl h,λZ h=>h⟩
theorem Inv.newObj{k P G σ}{s s':Shared}(I:Inv k P G σ s){o:O}{ad:Addr×Option Addr}(hn:σ.n<1000)(hg:s'.gens=s.gens)(ho:s'.os=s.os)(hk:∀b ob,s.heap.get? b=some ob->s'.heap.get? b=some ob)(hf:∀b∈bD ad,s.heap.get? b=none)(hl:∀b∈bD ad,∃ob,s'.heap.get? b=some ob)(h1:∀a d,ad=(a,some d)->a≠d)(hx:OR k.prog k.w k.T (G.push ad) σ.n s'.heap ad o)(ht:s.toks<=s'.toks:=by walk_at "t"):Inv k P (G.push ad) ⟨σ.h.upd o 10 σ.n,Nat.succ σ.n⟩ s':=by
 have get:∀(m:Nat) ad',(G.push ad).φ[m]? = some ad'->G.φ[m]? = some ad'\/(m=σ.n/\ad'=ad):=λm ad' e=>by
  rw[Gh.push]at e;rcases Nat.lt_or_ge m G.φ.length with q|q;.rw[aL9 q]at e;exact .inl e
  .replace e:=(aMa q)▸e;have:m-G.φ.length=0:=by
    rcases Nat.eq_zero_or_pos (m-G.φ.length) with z|z;.exact z
    .rw[List.getElem?_eq_none (show [ad].length<=_ from z)]at e;cases e
   rw[this]at e;exact .inr ⟨by have:=I.size;omega,by simpa using e.symm⟩
 have old:∀(m:Nat) ad',G.φ[m]? = some ad'->∀b∈bD ad',b∉bD ad:=λm ad' e b hb hb'=>by obtain⟨_,_,ob,h3⟩:=I.own m ad' e b hb;rw[hf b hb']at h3;cases h3
 have fr:∀b∈bD ad,k.B.get? b=none/\∀p∈P,p.1≠b:=λb hb=>by
  refine⟨?_,λp hp e=>?_⟩
  .cases q:k.B.get? b with
   |none=>rfl
   |some ob=>have:=I.base b ob q;rw[hf b hb]at this;cases this
  .obtain⟨sl,z,_⟩:=I.pins p hp;rw[e,hf b hb]at z;cases z
 have full':∀(m:Nat) ad',(G.push ad).φ[m]? = some ad'->∃om,(σ.h.upd o 10 σ.n).get m=some om:=by
  intro m ad' e;refine rwl (Tr.get_upd _ _ _ _ _ (by omega) ..) ?_;rcases get m _ e with q|⟨q,_⟩;.have hlt:m<G.φ.length:=(List.getElem?_eq_some_iff.mp q).1;rw[if_neg (by have:=I.size;omega)];exact I.full m ad' q
  .exact⟨o,by rw[if_pos q]⟩
 refine⟨I.g0.trans (G.le_push ad),hg.trans I.gens,ho.trans I.os,aL1 I.tk ht,λb ob e=>hk _ _ (I.base b ob e),λp hp=>e12 (I.pins p hp) λsl e q=>⟨sl,hk _ _ e,q⟩,I.pinsB,I.pinsK,?_,hn,λm om e=>?_,full',⟨λm a d e=>?_,λi j a1 a2 x e1 e2 m1 m2=>?_⟩,λm ad' e b hb=>?_,
  λt ht=>(I.tups t ht).at λob e=>hk _ _ e,λt ht=>e31 (I.rngs t ht) λa b c r=>⟨a,b,c,hk _ _ r⟩,λm hm=>?_,I.fz⟩
 .show Nat.succ σ.n=(G.φ++[ad]).length;rw[aMe,I.size];rfl
 .rw[Tr.get_upd _ _ _ _ _ (by omega)]at e;by_cases q:m=σ.n;.rw[if_pos q]at e;cases e;subst q;exact⟨ad,by rw[Gh.push,aMa (by rw[I.size];exact aLO _),I.size,Nat.sub_self];rfl,hx⟩
  .replace e:=(if_neg q)▸e;obtain⟨⟨a',d'⟩,h2,h3⟩:=I.objs m om e;refine⟨(a',d'),?_,h3.at (G.le_push ad) λb Z ob z=>hk _ _ z⟩;rw[Gh.push,aL9 (List.getElem?_eq_some_iff.mp h2).1];exact h2
 .rcases get m _ e with q|⟨_,q⟩;.exact I.apart.one m a d q
  .exact h1 a d q.symm
 .rcases get i _ e1 with q|⟨q,rfl⟩<;>rcases get j _ e2 with z|⟨z,rfl⟩;.exact I.apart.two i j a1 a2 x q z m1 m2
  .exact absurd m2 (old i a1 q x m1)
  .exact absurd m1 (old j a2 z x m2)
  .exact rwl (q ..) (rwl (z ..) rfl)
 .rcases get m _ e with q|⟨_,rfl⟩;.obtain⟨h2,h3,ob,h4⟩:=I.own m ad' q b hb;exact⟨h2,h3,ob,hk _ _ h4⟩
  .exact⟨(fr b hb).1,(fr b hb).2,hl b hb⟩
 .refine e21 (I.excs m hm) λc fs e=>?_;refine e12 (I.objs m _ e) λad' h2 Z=>?_;have hlt:m<G.φ.length:=(List.getElem?_eq_some_iff.mp h2).1;refine⟨c,fs,?_⟩;rw[Tr.get_upd _ _ _ _ _ (by omega),if_neg (by have:=I.size;omega)];exact e
end Mine.Internal
end
noncomputable section
open PySem PySem.W PyProof.Rows PySem.Calls Builtin Builtin.ObjectAttr Builtin.Getset_descriptor
namespace Mine.Internal
variable {n:Nat}
section
variable {prog:Program}{w:World}{A:Around}{E:Value->Shared->Prop}{s:Shared}{K:Frag}{x C:Addr}{ox:Obj}{od:Option Obj}{name:Str}
theorem PW{a:Addr}{m:Str->Option Value}{v:Value}{Q:Unit->Shared->Prop}{M:Model}(hn:NsN s.heap a m n)(hQ:∀h',NsN h' a (λx=>if x=name then some v else m x) (if (m name).isSome then n else n+1)->Heap.SameBut a s.heap h'->Q () { s with heap:=h',toks:=s.toks+1 }):wpAny M A (nsSet a name v) Q E s:=by
 refine e35 hn λo es ep ho hd hk hm hle=>?_;unfold nsSet;refine wpAny_bind (wpAny_bind (wpAny_askSetting (wpAny_pure (wpAny_bind (wpAny_mkText (wpAny_bind (wpAny_loadPart ho ?_)))))));refine rwl (hd ..) ?_;dsimp only;have hany:es.any (·.refKey)=false:=by rw[Array.any_eq_false'];intro e he;obtain⟨n,t,h⟩:=hk e he;simp[DictEntry.refKey,h]
 have hc:(!es.any (·.key.isStr name)&&es.any (·.refKey))=false:=by rw[hany,Bool.and_false]
 refine rwl (aRefKeyMayBeTheName_at ..) (rwl (hc ..) ?_);refine wpAny_updatePart ho (hQ _ ?_ (Heap.SameBut.update ..));refine aLJ λaA=>?_;obtain⟨c,d,dt,sl⟩:=o;dsimp only at hd;subst hd;have hfind:(m name).isSome=(es.findIdx? (·.key.isStr name)).isSome:=by refine rwr (hm name ..) ?_;delta nsFind findBy;rw[Option.isSome_map,Array.findIdx?_isSome,Bool.eq_iff_iff,Array.find?_isSome,Array.any_eq_true']
 cases hi:es.findIdx? (·.key.isStr name) with
 |some i=>
  have hs:(m name).isSome=true:=by rw[hfind,hi];rfl
  refine aA (fH _ _ ep (Heap.get?_update_self _ ho (by simp only[Obj.putName_eq,Obj.putNameByArray,hi];rfl)) (by simp only[Obj.putName_eq,Obj.putNameByArray,hi];rfl) (hk.modify _ _) (λx=>?_) ?_);.refine(?_:_=if x=name then some v else m x);rw[<- hm];exact findBy_modify (λn v=>v.isStr n) Value.isStr_inj es name x v i hi
  .rw[if_pos hs,Array.size_modify];exact hle
 |none=>
  have hs:¬(m name).isSome=true:=by rw[hfind,hi];exact Bool.false_ne_true
  refine aA (fH _ _ (ep+1) (Heap.get?_update_self _ ho (by simp only[Obj.putName_eq,Obj.putNameByArray,hi];rfl)) (by simp only[Obj.putName_eq,Obj.putNameByArray,hi];rfl) (hk.push _ _ _ _) (λx=>?_) ?_)
  .show _=if x=name then some v else m x
   refine rwr (hm ..) ?_;exact findBy_push (λn v=>v.isStr n) es name x _ _ v (λy=>by
    refine(?_:(name == y)=decide (y=name));by_cases h:y=name;.subst h;simp
    .have:¬name=y:=λe=>h e.symm;simp[h,this]) hi
  .rw[if_neg hs,Array.size_push];exact aFp hle
theorem EW(self:Value):refuseLoop self "__setattr__" [.type "Exception",.type "BaseException",.type "object"]=pure ():=by kernel_rfl
noncomputable def zL:List Value->Bool
 |.ref _::r=>zL r
 |r=>r == [.type "Exception",.type "BaseException",.type "object"]
theorem qR(self:Value){l:List Value}:zL l=true->refuseLoop self "__setattr__" l=pure ():=by
 induction l with
 |nil=>intro e;cases e
 |cons v r ih=>
  intro e;have H:(v::r == [.type "Exception",.type "BaseException",.type "object"])=true->refuseLoop self "__setattr__" (v::r)=pure ():=λe=>by rw[eq_of_beq e];exact EW self
  cases v with
  |ref c=>rw[refuseLoop_ref];exact ih e
  |_=>exact H e
noncomputable def gX(K:Frag)(C:Addr):Bool:=(clsIn K C).any λcd=>(onlyObject cd.mro||zL cd.mro)&&cd.hasDict&&!cd.mro.isEmpty&&cd.mro.contains (.type "object")
theorem aJM{R:Result->Shared->Prop}{dx:Addr}{m:Str->Option Value}{v:Value}{tk:Tok}(X:K.In s.heap)(I:InstAt s.heap x ox C od)(hd:ox.dict=some dx)(hp:gX K C=true)(ht:takerIn K C name=some none)(hn:NsN s.heap dx m n)(hz:n<=1000000)(h:∀h',NsN h' dx (λx=>if x=name then some v else m x) (if (m name).isSome then n else n+1)->Heap.SameBut dx s.heap h'->R (.ok (.ret .none)) { s with heap:=h',toks:=s.toks+1 }):
 codeAny (model prog w) A (.call (.builtin "object.__setattr__") ⟨[.ref x,.str name tk,v],[]⟩) R s:=by
 refine aLJ λaA=>?_;have SF:=PySem.F.store_object;refine e12 (any_some hp) λcd hc hcd=>?_;simp only[Bool.and_eq_true,Bool.not_eq_true',Bool.or_eq_true]at hcd;obtain⟨gW,hob⟩:=hcd;refine e02 gW λgW ne=>?_;refine e02 gW λho hdict=>?_;refine aA ?_;have hrl:refuseLoop (.ref x) "__setattr__" cd.mro=pure ():=by
  rcases ho with q|q;.exact refuse_only _ q
  .exact qR _ q
 have sub:Looks (model prog w) s.heap (isInstance (.ref x) (.type "object")) true:=I.type.andThen (looks_mroIn X (by unfold mroIn;rw[hc,Option.bind_some,if_neg (by rw[ne];decide),hob]));refine codeAny_call_builtin SF.slot.plain SF.entry (@check_slot (model prog w) _ _ s "object.__setattr__" "object" "__setattr__" (.ref x) [.str name tk,v] [] _ SF.kind SF.split sub (SF.args (.ref x) (.str name tk) v) ?_);refine e12 (Option.bind_eq_some_iff.mp ht) λattr ha hr=>?_;have hm:Looks (model prog w) s.heap (mroOf (.ref C)) cd.mro:=(looks_clsIn X hc).andThen .now;have L3:Looks (model prog w) s.heap (storeTaker? attr) none:=by
  refine aLJ λaA=>?_;cases attr with
  |none=>refine aA ?_;exact .now
  |some a=>
   refine e12 (Option.map_eq_some_iff.mp hr) λb hb e=>?_;cases b with
   |true=>cases e
   |false=>refine aA ?_;exact(looks_takesIn X hb).andThen .now
 refine rwl (osa_eq ..) (rwl (refuse_eq ..) ?_);refine wpAny_bind (wpAny_bind (I.type.here (wpAny_bind (hm.here ?_))));refine rwl (hrl ..) ?_;refine wpAny_pure (wpAny_bind (I.type.here (wpAny_bind ((looks_findIn X ha).here (wpAny_bind (L3.here ?_))))));refine aLJ λaA=>?_;obtain⟨hx,hcl,hno,-⟩:=I;obtain⟨oc,odi,oda,osl⟩:=ox;dsimp only at hcl hd;subst hcl hd;refine aA ?_;refine wpAny_bind (wpAny_pure (wpAny_bind (wpAny_bind (wpAny_loadPart hx (wpAny_bind ((looks_clsIn X hc).here ?_))))));refine rwl (hdict ..) ?_;refine wpAny_pure (a:=some dx) (wpAny_bind (wpAny_pure (wpAny_bind (PW hn λh' hn' hs'=>?_))));refine e35 (id hn') λo' es' ep' ho' hd' Z Z hle=>?_;refine wpAny_bind (wpAny_lookBehind ho' (by rw[hd'];refine pastItsLine_dict ?_;rw[sizeLine_eq];split at hle<;>omega) ?_);exact wpAny_pure (h _ hn' hs')
theorem EQ{dx:Addr}{m:Str->Option Value}{v:Value}{Q:Unit->Shared->Prop}(X:K.In s.heap)(I:InstAt s.heap x ox C od)(hs:findIn K (.ref C) "__setattr__" = some (some (.builtin "object.__setattr__")))(hd:ox.dict=some dx)(hp:gX K C=true)(ht:takerIn K C name=some none)(hn:NsN s.heap dx m n)(hz:n<=1000000)(h:∀h',NsN h' dx (λx=>if x=name then some v else m x) (if (m name).isSome then n else n+1)->Heap.SameBut dx s.heap h'->Q () { s with heap:=h',toks:=s.toks+1+1 }):
 wpAny (model prog w) A (setAttr (.ref x) name v) Q E s:=
 set_plain X I hs (aJM (s:={ s with toks:=s.toks+1 }) X I hd hp ht hn hz h)
theorem aDV{R:Result->Shared->Prop}{v:Value}{tk:Tok}(X:K.In s.heap)(I:InstAt s.heap x ox C none)(hd:ox.dict=none)(hp:gX K C=true)(ht:takerIn K C name=some none)(h:∀h',NsN h' s.heap.objs.size (λx=>if x=name then some v else none) 1->h'.get? x=some { ox with dict:=some s.heap.objs.size }->(∀b o,b≠x->s.heap.get? b=some o->h'.get? b=some o)->
  R (.ok (.ret .none)) { s with heap:=h',toks:=s.toks+1 }):
 codeAny (model prog w) A (.call (.builtin "object.__setattr__") ⟨[.ref x,.str name tk,v],[]⟩) R s:=by
 refine aLJ λaA=>?_;have SF:=PySem.F.store_object;refine e12 (any_some hp) λcd hc hcd=>?_;simp only[Bool.and_eq_true,Bool.not_eq_true',Bool.or_eq_true]at hcd;obtain⟨gW,hob⟩:=hcd;refine e02 gW λgW ne=>?_;refine e02 gW λho hdict=>?_;refine aA ?_;have hrl:refuseLoop (.ref x) "__setattr__" cd.mro=pure ():=by
  rcases ho with q|q;.exact refuse_only _ q
  .exact qR _ q
 have sub:Looks (model prog w) s.heap (isInstance (.ref x) (.type "object")) true:=I.type.andThen (looks_mroIn X (by unfold mroIn;rw[hc,Option.bind_some,if_neg (by rw[ne];decide),hob]));refine codeAny_call_builtin SF.slot.plain SF.entry (@check_slot (model prog w) _ _ s "object.__setattr__" "object" "__setattr__" (.ref x) [.str name tk,v] [] _ SF.kind SF.split sub (SF.args (.ref x) (.str name tk) v) ?_);refine e12 (Option.bind_eq_some_iff.mp ht) λattr ha hr=>?_;have hm:Looks (model prog w) s.heap (mroOf (.ref C)) cd.mro:=(looks_clsIn X hc).andThen .now;have L3:Looks (model prog w) s.heap (storeTaker? attr) none:=by
  refine aLJ λaA=>?_;cases attr with
  |none=>refine aA ?_;exact .now
  |some a=>
   refine e12 (Option.map_eq_some_iff.mp hr) λb hb e=>?_;cases b with
   |true=>cases e
   |false=>refine aA ?_;exact(looks_takesIn X hb).andThen .now
 refine rwl (osa_eq ..) (rwl (refuse_eq ..) ?_);refine wpAny_bind (wpAny_bind (I.type.here (wpAny_bind (hm.here ?_))));refine rwl (hrl ..) ?_;refine wpAny_pure (wpAny_bind (I.type.here (wpAny_bind ((looks_findIn X ha).here (wpAny_bind (L3.here ?_))))));refine aLJ λaA=>?_;obtain⟨hx,hcl,hno,-⟩:=I;obtain⟨oc,odi,oda,osl⟩:=ox;dsimp only at hcl hd;subst hcl hd;refine aA ?_;refine wpAny_bind (wpAny_pure (wpAny_bind (wpAny_bind (wpAny_loadPart hx (wpAny_bind ((looks_clsIn X hc).here ?_))))));refine rwl (hdict ..) ?_;have hx1:=aLS (h:=s.heap) { cls:=.type "dict",data:=.dict #[] } hx;have hn0:NsN ((s.heap.push { cls:=.type "dict",data:=.dict #[] }).update x λo=>{ o with dict:=some s.heap.objs.size }) s.heap.objs.size (λZ=>none) 0:=fH ({ cls:=.type "dict",data:=.dict #[] }) (#[]) 0 (rwl (Heap.get?_update_other _ _ (aLT (aL2 hx)) ..) (aL4 _ rfl)) rfl ((λe he=>by simp at he)) (λZ=>rfl) (aLO _);have nf:∀z,({ cls:=Value.ref C,dict:=z,data:=oda,slots:=osl }:Obj).isFreed=false:=λz=>by have:=(Heap.get?_some_iff.mp hx).2;cases oda<;>first|rfl|cases this
 have hx2:((s.heap.push { cls:=.type "dict",data:=.dict #[] }).update x λo=>{ o with dict:=some s.heap.objs.size }).get? x=some ⟨.ref C,some s.heap.objs.size,oda,osl⟩:=
  Heap.get?_update_self _ hx1 (nf _)
 refine rwl (if_neg (show ¬((!true)=true) by decide) ..) ?_;have nt:(!true||!typeHasDict (Value.ref C))=false:=rfl;have tail:wpAny (model prog w) A.in1 (do let d <- alloc { cls:=.type "dict",data:=.dict #[] };update x λo=>{ o with dict:=some d };dictMade (.ref C) x d)
  (λr s'=>wpAny (model prog w) A.in1 (match r with|some d=>storeInDict d (.str name tk) name v|none=>noDictFor (.ref x) (.ref C) name attr.isSome)
   (λfin s'=>match fin with|.done f=>R (.ok f) s'|.again c'=>c'.quiet=true/\codeAny (model prog w) A c' R s') (λe s'=>R (.error e) s') s') (λe s'=>R (.error e) s') s:=by
  refine wpAny_bind (wpAny_alloc (wpAny_bind (wpAny_update hx1 (wpAny_bind (wpAny_pure (wpAny_pure ?_))))));refine wpAny_bind (wpAny_pure (wpAny_bind (PW hn0 λh' hn' hs'=>?_)));have hn'':NsN h' s.heap.objs.size (λx=>if x=name then some v else none) 1:=hn';refine e35 (id hn'') λo' es' ep' ho' hd' Z Z hle=>?_;refine wpAny_bind (wpAny_lookBehind ho' (by rw[hd'];refine pastItsLine_dict ?_;rw[sizeLine_eq];exact aEs hle) ?_);refine wpAny_pure (h _ hn'' ?_ λb o hb e=>?_);.exact(hs'.2 x (aLT (aL2 hx))).trans hx2
  .refine(hs'.2 b (aLT (aL2 e))).trans ?_;refine rwl (Heap.get?_update_other _ _ (aMd hb) ..) ?_;exact aLS _ e
 cases oda<;>first|exact tail|(cases hno;done)
theorem AL{v:Value}{Q:Unit->Shared->Prop}(X:K.In s.heap)(I:InstAt s.heap x ox C none)(hs:findIn K (.ref C) "__setattr__" = some (some (.builtin "object.__setattr__")))(hd:ox.dict=none)(hp:gX K C=true)(ht:takerIn K C name=some none)(h:∀h',NsN h' s.heap.objs.size (λx=>if x=name then some v else none) 1->h'.get? x=some { ox with dict:=some s.heap.objs.size }->(∀b o,b≠x->s.heap.get? b=some o->h'.get? b=some o)->
  Q () { s with heap:=h',toks:=s.toks+1+1 }):wpAny (model prog w) A (setAttr (.ref x) name v) Q E s:=
 set_plain X I hs (aDV (s:={ s with toks:=s.toks+1 }) X I hd hp ht h)
noncomputable def oM(K:Frag)(C:Addr):Bool:=(clsIn K C).any λcd=>!cd.mro.isEmpty&&cd.mro.contains (.type "BaseException")
theorem XE(self:Value):bindSpecial (.builtin "BaseException.__getattribute__") self=pure (.builtin "BaseException.__getattribute__",[self]):=
 (Slot.of (T:="Exception") (name:="__getattribute__") (owner:="BaseException") (n:="__getattribute__") (by rw[typeLookup_type,builtinLookup_eq_fast];kernel_rfl) (by decide +kernel) (by decide +kernel) (by decide +kernel)
  (.inl (by decide +kernel)) (by rw[isSubtype_type];kernel_rfl)).bind self
theorem FX{expr:Bool}{v:Value}{Q:Value->Shared->Prop}(X:K.In s.heap)(I:InstAt s.heap x ox C od)(hga:findIn K (.ref C) "__getattribute__" = some (some (.builtin "BaseException.__getattribute__")))(hno:findIn K (.ref C) "__getattr__" = some none)(hb:oM K C=true)(hf:findObj K C od name=some (.value v))(hh:handedIn v=true)(h:Q v { s with toks:=s.toks+1 }):wpAny (model prog w) A (getAttr (.ref x) name expr) Q E s:=by
 obtain⟨hh',g,d,t,os⟩:=s;have L0:=I.type (M:=model prog w);have L1:=looks_findIn (M:=model prog w) X hga;have L2:=looks_findIn (M:=model prog w) X hno;have L3:=looks_find (M:=model prog w) X I hf;refine e12 (any_some hb) λcd hc hcd=>?_;simp only[Bool.and_eq_true,Bool.not_eq_true']at hcd;have sub:Looks (model prog w) hh' (isInstance (.ref x) (.type "BaseException")) true:=I.type.andThen (looks_mroIn X (by unfold mroIn;rw[hc,Option.bind_some,if_neg (by rw[hcd.1];decide),hcd.2]));have hx2:(Value.builtin "BaseException.__getattribute__" == Value.builtin "object.__getattribute__")=false:=by decide +kernel
 have hx1:(onTheHeap (Value.ref C)&&Value.builtin "BaseException.__getattribute__" == Value.builtin "object.__getattribute__")=false:=by rw[hx2];rfl
 have hx0:(expr&&onTheHeap (Value.builtin "BaseException.__getattribute__"))=false:=by cases expr<;>rfl
 delta getAttr getAttrBy;refine wpAny_bind (wpAny_mkText (wpAny_holding (wpAny_bind (L0.at (wpAny_bind (L1.at ?_))))));dsimp only;refine rwl (hx1 ..) (rwl (if_neg Bool.false_ne_true ..) ?_);delta getAttrByItsOwn hookBefore;refine wpAny_bind ?_;refine rwl (if_pos (show onTheHeap (Value.ref C)=true from rfl) ..) ?_;refine L2.at (wpAny_bind (wpAny_attempt (wpAny_holding ?_)));dsimp only[callGetattribute];refine rwl (hx0 ..) (rwl (if_neg Bool.false_ne_true ..) ?_);unfold boundAndCalled;refine rwl (XE ..) ?_;refine wpAny_bind (wpAny_pure (wpAny_call (codeAny_call_builtin (by decide +kernel) PySem.F.entry_bexc_ga
  (@check_slot (model prog w) _ _ _ "BaseException.__getattribute__" "BaseException" "__getattribute__" (.ref x) [.str name t] [] _ (by decide +kernel) (by decide +kernel) sub (PySem.F.args_bexc_ga _ _) ?_))))
 unfold Builtin.«object.__getattribute__»;refine wpAny_bind (wpAny_pure (wpAny_bind (wpAny_pure (wpAny_bind (L0.at (wpAny_bind (L3.at ?_)))))));refine wpAny_pure ?_;refine(?_:wpAny _ _ (handedOut v) _ _ _);rw[handedOut_of hh];exact wpAny_pure h
end
end Mine.Internal
end
noncomputable section
open PySem PySem.W PyProof.Rows PySem.Calls
namespace Mine.Internal
variable {α:Type}{s:Shared}{E:Value->Shared->Prop}{Q:Value->Shared->Prop}{A:Around}{xs:List Value}{prog:Program}{σ:St}
structure Cx where
 names:List (Str×Nat)
 kinds:List (Str×NameKind)
 comp:Bool
 hs:Bool
 rank:Nat
structure Sit where
 k:Kit
 C:Cx
 env:Env
 fenv:Env
 outer:List Env
 A:Around
 P:List (Addr×Obj)
def Lo(k:Kit)(P:List (Addr×Obj))(G:Gh)(a:Addr):Prop:=k.B.get? a=none/\(∀p∈P,p.1≠a)/\∀(n:Nat) ad,G.φ[n]? = some ad->a∉bD ad
structure FR(S:Sit)(l:Loc)(G:Gh)(h:Heap):Prop where
 loc:∃m,h.Ns S.env.locals m/\∀x i v,(x,i)∈S.C.names->S.C.kinds.lookup x=some .local->nth l i=some (some v)->∃y,m x=some y/\VR G v y
 cell:∀x i v,(x,i)∈S.C.names->S.C.kinds.lookup x=some .cell->nth l i=some (some v)->∃c y,S.env.cells.lookup x=some c/\h.IsCell c (some y)/\VR G v y
 lo:Lo S.k S.P G S.env.locals
 cellLo:S.C.comp=false->∀x,S.C.kinds.lookup x=some .cell->∃c v,S.env.cells.lookup x=some c/\h.IsCell c v/\Lo S.k S.P G c
 cellInj:S.C.comp=false->∀x y c,S.C.kinds.lookup x=some .cell->S.C.kinds.lookup y=some .cell->S.env.cells.lookup x=some c->S.env.cells.lookup y=some c->x=y
def Fly(k:Kit)(L:Addr)(a:Addr)(h:Heap):Prop:=∃oe vs,h.get? a=some oe/\oe.data=.fields vs/\(vs[1]? = some .none\/
 ∃Tb oT ts,vs[1]? = some (.ref Tb)/\k.B.get? Tb=none/\Tb≠a/\h.get? Tb=some oT/\oT.cls=.type "traceback"/\oT.data=.fields ts/\(ts[3]? = some .none\/ts[3]? = some (rawInt L)))
def dL(A:Around)(G:Gh):Prop:=A.handled=none\/∃(n:Nat) (a:Addr) (d:Option Addr),A.handled=some (.ref a)/\n∈G.excs/\G.φ[n]? = some (a,d)
theorem dL.mono{A G G'}(x:dL A G)(h:G.Le G'):dL A G':=by
 rcases x with x|⟨n,a,d,h1,h2,h3⟩;.exact .inl x
 .obtain⟨d',h4⟩:=h.1 _ _ _ h3;exact .inr ⟨n,a,d',h1,h.2.2.2.1 _ h2,h4⟩
structure aLi(A:Around)(r:Nat):Prop where
 depth:A.depth+3*r<990
 units:A.units+20*r<9800
structure Sit.OK(S:Sit):Prop where
 kinds:S.env.scope.names=S.C.kinds
 fn:S.env.scope.kind=.function
 globals:S.env.globals=mainGlobals
 builtins:S.env.builtins=builtinsNs
 frames:S.A.frames=some (S.fenv::S.outer)
 frame:S.env.frame=S.fenv.frame
 fkind:S.fenv.scope.kind≠.module
 mine:(S.C.comp=false/\S.fenv=S.env/\S.env.frame=some S.env.locals)\/
  (S.C.comp=true/\∃L o,S.fenv.frame=some L/\(L,o)∈S.P/\∃es n,o.data=.dict es n)
 out:∀e∈S.outer,e.scope.kind≠.module/\∃L o,e.frame=some L/\(L,o)∈S.P/\∃es n,o.data=.dict es n
 handled:S.C.hs=false->S.A.handled=none
 room:aLi S.A S.C.rank
 above:S.k.B.objs.size<=S.env.locals
 cpin:S.C.comp=true->∀x,S.C.kinds.lookup x=some .cell->∃c o v,S.env.cells.lookup x=some c/\(c,o)∈S.P/\o.data=.cell v
 ndup:(S.C.names.map (·.1)).Nodup/\(S.C.names.map (·.2)).Nodup
noncomputable def Sit.L(S:Sit):Addr:=S.fenv.frame.getD 0
def PG{α β:Type}(R:Gh->α->β->Prop)(S:Sit)(l:Loc)(G:Gh)(r:RE α)(x:β)(s:Shared):Prop:=
 ∃v σ G',r=.ok v σ/\G.Le G'/\Inv S.k S.P G' σ s/\FR S l G' s.heap/\R G' v x
abbrev PQ(S:Sit)(l:Loc)(G:Gh)(r:RE V)(x:Value)(s:Shared):Prop:=PG VR S l G r x s
def PX(S:Sit)(l:Loc)(G:Gh)(r:RE α)(x:Value)(s:Shared):Prop:=∃(n:Nat) (σ:St) (G':Gh) (a:Addr) (d:Option Addr),r=.exc n σ/\G.Le G'/\Inv S.k S.P G' σ s/\FR S l G' s.heap/\
 x=.ref a/\G'.φ[n]? = some (a,d)/\n∈G'.excs/\Fly S.k S.L a s.heap
theorem PG.le{α β:Type}{R:Gh->α->β->Prop}{S l G G' r x s}(h:G.Le G')(p:PG R S l G' r x s):PG R S l G r x s:=let ⟨v,σ,eS,h1,h2,r⟩:=p;⟨v,σ,eS,h1,h.trans h2,r⟩
theorem PX.le{S l G G'}{r:RE α}{x s}(h:G.Le G')(p:PX S l G' r x s):PX S l G r x s:=let ⟨n,σ,eS,a,d,h1,h2,r⟩:=p;⟨n,σ,eS,a,d,h1,h.trans h2,r⟩
def lI{α β:Type}(R:Gh->α->β->Prop)(S:Sit)(l:Loc)(G:Gh)(r:RE α)(t:Sem β)(s:Shared):Prop:=r≠.stuck->wpAny S.k.M S.A t (PG R S l G r) (PX S l G r) s
abbrev dJ(S:Sit)(l:Loc)(G:Gh)(r:RE V)(t:Sem Value)(s:Shared):Prop:=lI VR S l G r t s
abbrev aLh(S:Sit)(l:Loc)(G:Gh)(r:RE Bool)(t:Sem Bool)(s:Shared):Prop:=lI (λZ a b=>a=b) S l G r t s
theorem RE.bind_ok{α β:Type}(a:α)(s:St)(f:α->St->RE β):(RE.ok a s).bind f=f a s:=rfl
theorem RE.bind_exc{α β:Type}(n:Nat)(s:St)(f:α->St->RE β):(RE.exc n s:RE α).bind f=.exc n s:=rfl
theorem RE.bind_stuck{α β:Type}(f:α->St->RE β):(RE.stuck:RE α).bind f=.stuck:=rfl
theorem lI.step{α β γ:Type}{R:Gh->α->β->Prop}{S l G}{r:RE α}{t:Sem β}{f:α->St->RE γ}{Q:β->Shared->Prop}(h:lI R S l G r t s)(hns:r.bind f≠.stuck)(hE:∀x s',PX S l G (r.bind f) x s'->E x s')(k:∀v σ' G' x s',r.bind f=f v σ'->f v σ'≠.stuck->G.Le G'->Inv S.k S.P G' σ' s'->FR S l G' s'.heap->R G' v x->Q x s'):wpAny S.k.M S.A t Q E s:=by
 refine wpAny_mono (h λq=>hns (by rw[q];rfl)) (λx s' p=>?_) λx s' p=>hE x s' ?_
 .refine e35 p λv σ G' h1 h2 h3 h4 h5=>?_;have e:r.bind f=f v σ:=by rw[h1];rfl
  exact k v σ G' x s' e (by rw[<- e];exact hns) h2 h3 h4 h5
 .obtain⟨n,σ,G',a,d,h1,r⟩:=p;exact⟨n,σ,G',a,d,by rw[h1];rfl,r⟩
theorem lI.post{α β:Type}{R:Gh->α->β->Prop}{S l G G'}{r:RE α}{t:Sem β}(h:lI R S l G' r t s)(hns:r≠.stuck)(hG:G.Le G'):wpAny S.k.M S.A t (PG R S l G r) (PX S l G r) s:=
 wpAny_mono (h hns) (λZ Z p=>p.le hG) λZ Z p=>p.le hG
theorem dJ.done{S l G σ}{v:V}{x:Value}(I:Inv S.k S.P G σ s)(F:FR S l G s.heap)(h:VR G v x):PQ S l G (.ok v σ) x s:=⟨v,σ,G,rfl,.refl G,I,F,h⟩
theorem Lo.mono{k P G G' a}{h:Heap}(x:Lo k P G a)(hl:∃o,h.get? a=some o)(hO:∀(n:Nat) ad b,G'.φ[n]? = some ad->b∈bD ad->(∃ad',G.φ[n]? = some ad'/\b∈bD ad')\/h.get? b=none):Lo k P G' a:=
 ⟨x.1,x.2.1,λn ad e hb=>by
  rcases hO n ad a e hb with⟨ad',h1,h2⟩|h1;.exact x.2.2 n ad' h1 h2
  .obtain⟨o,ho⟩:=hl;rw[h1]at ho;cases ho⟩
theorem FR.leaf{S l G G'}{h h':Heap}(F:FR S l G h)(hG:G.Le G')(hk:∀b o,(∀(n:Nat) ad,G.φ[n]? = some ad->b∉bD ad)->h.get? b=some o->h'.get? b=some o)(hc:S.C.comp=true->∀b o v,h.get? b=some o->o.data=.cell v->h'.get? b=some o)(hO:∀(n:Nat) ad b,G'.φ[n]? = some ad->b∈bD ad->(∃ad',G.φ[n]? = some ad'/\b∈bD ad')\/h.get? b=none):FR S l G' h':=by
 refine e12 F.loc λm hm hm'=>?_;have hc':∀x c v,S.C.kinds.lookup x=some .cell->S.env.cells.lookup x=some c->h.IsCell c v->h'.IsCell c v:=λx c v hx e q=>by
  cases hcm:S.C.comp with
  |true=>obtain⟨o,ho,hd⟩:=q;exact⟨o,hc hcm _ _ _ ho hd,hd⟩
  |false=>refine e23 (F.cellLo hcm x hx) λc' v' e' q' hl=>?_;rw[e]at e';cases e';obtain⟨o,ho,hd⟩:=q;exact⟨o,hk _ _ hl.2.2 ho,hd⟩
 refine⟨⟨m,hm.at' λo e=>hk _ _ F.lo.2.2 e,λx i v h1 h2 h3=>?_⟩,λx i v h1 h2 h3=>?_,?_,λhcm x hx=>?_,F.cellInj⟩;.obtain⟨y,h4,h5⟩:=hm' x i v h1 h2 h3;exact⟨y,h4,h5.mono hG⟩
 .obtain⟨c,y,h4,h5,h6⟩:=F.cell x i v h1 h2 h3;exact⟨c,y,h4,hc' x c _ h2 h4 h5,h6.mono hG⟩
 .obtain⟨o,es,ep,e,_⟩:=hm;exact F.lo.mono ⟨o,e⟩ hO
 .refine e23 (F.cellLo hcm x hx) λc v h4 h5 h6=>?_;refine e12 (id h5) λo ho Z=>?_;exact bM c v h4 (hc' x c _ hx h4 h5) (h6.mono ⟨o,ho⟩ hO)
theorem FR.keeps{S l G}{h h':Heap}(F:FR S l G h)(hk:∀b o,h.get? b=some o->h'.get? b=some o):FR S l G h':=
 F.leaf (.refl G) (λb o Z e=>hk b o e) (λZ b o Z e Z=>hk b o e) λn ad b e hb=>.inl ⟨ad,e,hb⟩
theorem Inv.toks{k P G σ}{t:Nat}(I:Inv k P G σ s)(ht:s.toks<=t:=by walk_at "t"):Inv k P G σ { s with toks:=t }:=I.keeps rfl rfl (λZ Z e=>e) ht
theorem tW(n:Nat)(k:Nat->α):fN n k=k n:=by cases n<;>rfl
theorem cF(i:Int):mkI i=.int i:=by
 cases i with
 |ofNat n=>exact tW n (λn=>V.int (.ofNat n))
 |negSucc n=>exact tW n (λn=>V.int (.negSucc n))
theorem pO(a b:Int):ltB a b=decide (a<b):=by
 have q:ltB a b=Z.ltB a b:=by cases a<;>cases b<;>rfl
 refine rwl (q ..) ?_;cases h:Z.ltB a b with
 |true=>exact(decide_eq_true ((Z.ltB_iff a b).mp h)).symm
 |false=>exact(decide_eq_false λz=>by rw[(Z.ltB_iff a b).mpr z]at h;cases h).symm
theorem QP(a b:Int):leB a b=decide (a<=b):=by
 have q:leB a b=Z.leB a b:=by cases a<;>cases b<;>rfl
 refine rwl (q ..) ?_;cases h:Z.leB a b with
 |true=>exact(decide_eq_true ((Z.leB_iff a b).mp h)).symm
 |false=>exact(decide_eq_false λz=>by rw[(Z.leB_iff a b).mpr z]at h;cases h).symm
theorem eO(a b:Int):eqB a b=decide (a=b):=by
 have q:eqB a b=Z.eqB a b:=by cases a<;>cases b<;>rfl
 refine rwl (q ..) ?_;cases h:Z.eqB a b with
 |true=>exact(decide_eq_true ((Z.eqB_iff a b).mp h)).symm
 |false=>exact(decide_eq_false λz=>by rw[(Z.eqB_iff a b).mpr z]at h;cases h).symm
theorem gO(b:Bool):cW b = !b:=by cases b<;>rfl
theorem aC{a b:Nat}:Nat.blt a b=true<->a<b:=Z.blt_iff
theorem aDx{b:Bool}{x y:α}{P:α->Prop}(h:P (sel b x y))(hn:¬P y):b=true/\P x:=by
 cases b with
 |true=>exact⟨rfl,h⟩
 |false=>exact absurd h hn
theorem bQ:∀a b:List Nat,eqS a b=decide (a=b):=by
 intro mN;induction mN with
 |nil=>
  intro rE;cases rE with
  |nil=>exact rfl
  |cons _ _=>exact rfl
 |cons x l aQ=>
  intro uT;cases uT with
  |nil=>exact rfl
  |cons y r=>
   refine(?_:(Bool.rec false (eqS l r) (Nat.beq x y):Bool)=_);cases h:Nat.beq x y with
   |false=>
    have:x≠y:=λe=>by rw[e,Nat.beq_refl]at h;cases h
    exact(decide_eq_false λe=>this (by injection e)).symm
   |true=>
    have:x=y:=aLU h;refine rwl this ((rwl (aQ r ..) ?_):eqS l r=_);by_cases q:l=r;.subst q;simp
    .exact rwl (decide_eq_false q ..) (rwl (decide_eq_false λe=>q (by injection e) ..) rfl)
theorem nO{a b:List Nat}:(⟨a.toArray⟩:Str)=⟨b.toArray⟩<->a=b:=by
 constructor;.intro h;injection h with h;simpa using h
 .rintro rfl;rfl
theorem oX(x y:Int):aBw x y=Builtin.bitAnd x y:=by
 cases x with
 |ofNat m=>cases y with
  |ofNat n=>unfold Builtin.bitAnd;refine rwl (decide_eq_true (show(0:Int)<=Int.ofNat m from by simp) ..) (rwl (decide_eq_true (show(0:Int)<=Int.ofNat n from by simp) ..) ?_);rfl
  |negSucc n=>
   unfold Builtin.bitAnd;refine rwl (decide_eq_true (show(0:Int)<=Int.ofNat m from by simp) ..) (rwl (decide_eq_false (show ¬(0:Int)<=Int.negSucc n from by omega) ..) ?_);have e:(Builtin.bitNot (Int.negSucc n)).toNat=n:=by unfold Builtin.bitNot;exact IC
   refine((rwl (e ..) ?_):_=Int.ofNat m-((Int.ofNat m).toNat&&& (Builtin.bitNot (Int.negSucc n)).toNat:Nat));have hl:m&&& n<=m:=Nat.and_le_left;refine(?_:((m-(m&&& n):Nat):Int)=(m:Int)-((m&&& n:Nat):Int));omega
 |negSucc m=>cases y with
  |ofNat n=>
   unfold Builtin.bitAnd;refine rwl (decide_eq_true (show(0:Int)<=Int.ofNat n from by simp) ..) (rwl (decide_eq_false (show ¬(0:Int)<=Int.negSucc m from by omega) ..) ?_);have e:(Builtin.bitNot (Int.negSucc m)).toNat=m:=by unfold Builtin.bitNot;exact IC
   refine(?_:_=Int.ofNat n-((Int.ofNat n).toNat&&& (Builtin.bitNot (Int.negSucc m)).toNat:Nat));rw[e];have hl:n&&& m<=n:=Nat.and_le_left;refine(?_:((n-(n&&& m):Nat):Int)=(n:Int)-((n&&& m:Nat):Int));omega
  |negSucc n=>
   unfold Builtin.bitAnd;refine rwl (decide_eq_false (show ¬(0:Int)<=Int.negSucc m from by omega) ..) (rwl (decide_eq_false (show ¬(0:Int)<=Int.negSucc n from by omega) ..) ?_);have e1:(Builtin.bitNot (Int.negSucc m)).toNat=m:=by unfold Builtin.bitNot;exact IC
   have e2:(Builtin.bitNot (Int.negSucc n)).toNat=n:=by unfold Builtin.bitNot;exact IC
   refine((rwl (e1 ..) (rwl (e2 ..) (?_:Int.negSucc (m||| n)=Builtin.bitNot ((m||| n:Nat):Int)))):_=Builtin.bitNot (((Builtin.bitNot (Int.negSucc m)).toNat||| (Builtin.bitNot (Int.negSucc n)).toNat:Nat):Int));unfold Builtin.bitNot;exact aEV
theorem GL(m n:Nat):Builtin.bitOr (Int.ofNat m) (Int.ofNat n)=Int.ofNat (Nat.lor m n):=by
 have e:∀k:Nat,Builtin.bitNot (Int.ofNat k)=Int.negSucc k:=λk=>by unfold Builtin.bitNot;show -(k:Int)-1=_;omega
 unfold Builtin.bitOr;refine rwl (e ..) (rwl (e ..) (rwr (oX ..) (?_:Builtin.bitNot (Int.negSucc (Nat.lor m n))=_)));unfold Builtin.bitNot;exact(aE7 : -(Int.negSucc (Nat.lor m n))-1=((Nat.lor m n:Nat):Int))
theorem JS(m n:Nat):Builtin.bitXor (Int.ofNat m) (Int.ofNat n)=Int.ofNat (Nat.xor m n):=by
 have e:Builtin.bitAnd (Int.ofNat m) (Int.ofNat n)=Int.ofNat (Nat.land m n):=(oX _ _).symm;unfold Builtin.bitXor;refine rwl (GL ..) (rwl (e ..) ?_);have h:(m||| n)=(m ^^^ n)+(m&&& n):=by
  have h1:(m ^^^ n)+(m&&& n)=(m ^^^ n)||| (m&&& n):=by
   have hz:(m ^^^ n)&&& (m&&& n)=0:=by apply Nat.eq_of_testBit_eq;intro i;simp only[Nat.testBit_and,Nat.testBit_xor,Nat.zero_testBit];refine aLJ λaA=>aA ?_;cases m.testBit i<;>cases n.testBit i<;>rfl
   have q:=nat_or_add_and (m ^^^ n) (m&&& n);rw[hz]at q;exact aG1 q
  refine rwl (h1 ..) ?_;apply Nat.eq_of_testBit_eq;intro i;simp only[Nat.testBit_and,Nat.testBit_xor,Nat.testBit_or];cases m.testBit i<;>cases n.testBit i<;>rfl
 exact((aHe h):((m||| n:Nat):Int)-((m&&& n:Nat):Int)=((m ^^^ n:Nat):Int))
noncomputable def sX:BO->Operator
 |.add=>.Add|.sub=>.Sub|.mul=>.Mult|.fdiv=>.FloorDiv|.fmod=>.Mod|.shl=>.LShift|.shr=>.RShift|.or=>.BitOr|.and=>.BitAnd|.xor=>.BitXor
theorem yA{a b:Int}(h:eqB a b=false):a≠b:=by rw[eO]at h;exact of_decide_eq_false h
theorem lT{a b:Int}{k:Nat->Nat->Option V}{v}(h:QC a b k=some v):∃m n:Nat,a=.ofNat m/\b=.ofNat n/\k m n=some v:=by
 cases a with
 |ofNat m=>cases b with
  |ofNat n=>exact⟨m,n,rfl,rfl,h⟩
  |negSucc n=>cases h
 |negSucc m=>cases h
theorem dN{b:Bool}{x:Option α}{v:α}(h:sel b x none=some v):b=true/\x=some v:=by
 cases b with
 |true=>exact⟨rfl,h⟩
 |false=>cases h
theorem AN{b:Bool}{x:Option α}{v:α}(h:sel b none x=some v):b=false/\x=some v:=by
 cases b with
 |false=>exact⟨rfl,h⟩
 |true=>cases h
theorem jK{b x:Nat}{v w:V}(h:small b x v=some w):x<b/\v=w:=by obtain⟨h1,h2⟩:=dN h;exact⟨aC.mp h1,aLP h2⟩
theorem GM{k:Int}(h:k.natAbs<1000000):Builtin.Int.intBits k<=64:=PySem.intBits_le_64 (aKM h) (aKJ h)
theorem TT{m b:Nat}(h:m<2 ^ b)(hb:0<b):Builtin.Int.intBits (Int.ofNat m)<=b:=by
 unfold Builtin.Int.intBits;split;.exact Nat.zero_le _
 .have hn:(Int.ofNat m).natAbs=m:=rfl;refine rwl (hn ..) ?_;rcases Nat.eq_zero_or_pos m with h0|h0
  .subst h0;have:Nat.log2 0=0:=by decide
   exact aG0 hb this
  .have:=(Nat.log2_lt (Nat.ne_of_gt h0)).mpr h;exact aF0 this
theorem JU{w:World}{op:BO}{a b:Int}{v:V}(h:TU op a b=some v):
 ∃i,v=.int i/\∀(t u:Tok) (Q:Value->Shared->Prop),(∀t k,s.toks<=k->Q (.int i t) { s with toks:=k })->
  wpAny (model prog w) A (binaryOp (sX op) (.int a t) (.int b u)) Q E s/\wpAny (model prog w) A (inplaceOp (sX op) (.int a t) (.int b u)) Q E s:=by
 cases op with
 |add=>cases h;exact⟨a+b,cF _,λt u Q k=>⟨add_int (k _ _ (aLV _)),iadd_int (k _ _ (aLV _))⟩⟩
 |sub=>cases h;exact⟨a-b,cF _,λt u Q k=>⟨sub_int' (k _ _ (aLV _)),isub_int (k _ _ (aLV _))⟩⟩
 |mul=>refine e02 (dN h) λh1 h2=>e02 (jK h2) λh3 aE=>?_;subst aE;have hm:IntMulOk a b:=.of_left (GM (aC.mp h1));exact⟨a*b,cF _,λt u Q k=>⟨PyProof.Rows.mul_int (k _ _ (aLV _)) hm,PyProof.Rows.imul_int (k _ _ (aLV _)) hm⟩⟩
 |fdiv=>refine e02 (AN h) λh1 h2=>e02 (jK h2) λh3 aE=>?_;subst aE;have hz:=yA h1;have hp:Builtin.divisionGoesByPylong a b=false:=PyProof.noPylong_small (aEI h3);exact⟨a.fdiv b,cF _,λt u Q k=>⟨floordiv_int hz (k _ _ (aLV _)) (.inl hp),ifloordiv_int hz (k _ _ (aLV _)) (.inl hp)⟩⟩
 |fmod=>refine e02 (AN h) λh1 h2=>?_;cases h2;have hz:=yA h1;exact⟨a.fmod b,cF _,λt u Q k=>⟨mod_int' hz (k _ _ (aLV _)),imod_int hz (k _ _ (aLV _))⟩⟩
 |shl=>
  refine e23 (lT h) λm n bF fK h1=>?_;subst bF fK;refine e02 (dN h1) λh2 h3=>e02 (jK h3) λh4 aE=>?_;subst aE;have h5:=aC.mp h2;have hb:Builtin.Int.intBits (Int.ofNat m)<=128:=TT (by simpa using h5) (by decide);have e:(Int.ofNat m)*2 ^ (Int.ofNat n).toNat=Int.ofNat (Nat.mul m (Nat.pow 2 n)):=by
   push_cast;rfl
  have hs:(Builtin.Int.intBits (Int.ofNat m):Int)+Int.ofNat n<=2 ^ 27:=by show(Builtin.Int.intBits (Int.ofNat m):Int)+(n:Int)<=134217728;omega
  have h0:(0:Int)<=Int.ofNat n:=by simp
  exact⟨_,cF _,λt u Q k=>⟨lshift_int h0 hs (e▸k _ _ (aLV _)),ilshift_int h0 hs (e▸k _ _ (aLV _))⟩⟩
 |shr=>
  refine e23 (lT h) λm n bF fK h1=>?_;subst bF fK;refine e02 (jK h1) λh4 aE=>?_;subst aE;have e:(Int.ofNat m).fdiv (2 ^ (Int.ofNat n).toNat)=Int.ofNat (Nat.div m (Nat.pow 2 n)):=by
   refine(?_:Int.fdiv (m:Int) (2 ^ n)=((m / 2 ^ n:Nat):Int));have:(2:Int) ^ n=((2 ^ n:Nat):Int):=by push_cast;rfl
   rw[this];first|exact(Int.ofNat_fdiv m (2 ^ n)).symm|exact(Int.natCast_fdiv m (2 ^ n)).symm
  have h0:(0:Int)<=Int.ofNat n:=by simp
  exact⟨_,cF _,λt u Q k=>⟨rshift_int h0 (e▸k _ _ (aLV _)),irshift_int h0 (e▸k _ _ (aLV _))⟩⟩
 |or=>refine e23 (lT h) λm n bF fK h1=>?_;subst bF fK;cases h1;exact⟨_,cF _,λt u Q k=>⟨or_int (GL m n▸k _ _ (aLV _)),ior_int (GL m n▸k _ _ (aLV _))⟩⟩
 |and=>cases h;exact⟨_,cF _,λt u Q k=>⟨and_int (oX a b▸k _ _ (aLV _)),iand_int (oX a b▸k _ _ (aLV _))⟩⟩
 |xor=>refine e23 (lT h) λm n bF fK h1=>?_;subst bF fK;cases h1;exact⟨_,cF _,λt u Q k=>⟨xor_int (JS m n▸k _ _ (aLV _)),ixor_int (JS m n▸k _ _ (aLV _))⟩⟩
theorem St.new_eq(s:St)(o:O)(k:Nat->St->RE α):s.new o k=sel (Nat.blt s.n 1000) (k s.n ⟨s.h.upd o 10 s.n,Nat.succ s.n⟩) .stuck:=tW s.n _
theorem bA{b:Bool}{x:RE α}(h:sel b x .stuck≠.stuck):b=true/\sel b x .stuck=x/\x≠.stuck:=by
 cases b with
 |true=>exact⟨rfl,rfl,h⟩
 |false=>exact absurd rfl h
theorem FR.newObj{S l G ad}{h h':Heap}(F:FR S l G h)(hk:∀b o,h.get? b=some o->h'.get? b=some o)(hf:∀b∈bD ad,h.get? b=none):FR S l (G.push ad) h':=
 F.leaf (G.le_push ad) (λb o Z e=>hk b o e) (λZ b o Z e Z=>hk b o e) λn ad' b e hb=>by
  rw[Gh.push]at e;dsimp only at e;rcases Nat.lt_or_ge n G.φ.length with q|q;.rw[aL9 q]at e;exact .inl ⟨ad',e,hb⟩
  .replace e:=(aMa q)▸e;have:n-G.φ.length=0:=by
    refine aLJ λaA=>?_;rcases Nat.eq_zero_or_pos (n-G.φ.length) with z|z;.exact aA z
    .rw[List.getElem?_eq_none (show [ad].length<=_ from z)]at e;cases e
   replace e:=(this)▸e;cases e;exact .inr (hf b hb)
theorem Gh.push_get(G:Gh)(ad):(G.push ad).φ[G.φ.length]? = some ad:=by rw[Gh.push];simp
theorem lR(h:Heap):h.get? h.objs.size=none:=by
 cases q:h.get? h.objs.size with
 |none=>rfl
 |some o=>exact absurd (aL2 q) (Nat.lt_irrefl _)
theorem iW{S dA G σ}{ls:List V}{k:Nat}(I:Inv S.k S.P G σ s)(F:FR S dA G s.heap)(h:VRs G ls xs)(hn:cZ σ ls≠.stuck)(hk0:s.toks<=k:=by walk_at "t"):
 PQ S dA G (cZ σ ls) (.ref s.heap.objs.size) { s with heap:=s.heap.push { cls:=.type "list",data:=.seq xs.toArray },toks:=k }:=by
 unfold cZ at hn|-;refine e03 (bA hn) λh1 e1 h2=>?_;rw[e1,St.new_eq]at *;refine e03 (bA h2) λh3 e2 h4=>?_;refine rwl (e2 ..) ?_;have hl:ls.length<100000:=by have:=aC.mp h1;rw[aD]at this;exact this
 let ad:Addr×Option Addr:=(s.heap.objs.size,none)
 have hf:∀b∈bD ad,s.heap.get? b=none:=λb hb=>by
  have:b=s.heap.objs.size:=by simpa [bD,ad] using hb
  rw[this];exact lR _
 have hk:∀b ob,s.heap.get? b=some ob->(s.heap.push { cls:=.type "list",data:=.seq xs.toArray }).get? b=some ob:=λb ob e=>aLS _ e;have hs:(s.heap.push { cls:=.type "list",data:=.seq xs.toArray }).get? s.heap.objs.size=some (dZ xs 0):=aL4 _ rfl;refine fH (.ref σ.n) _ (G.push ad) rfl (G.le_push ad) ?_ (F.newObj hk hf) ?_
 .refine I.newObj (aC.mp h3) rfl rfl hk hf (λb hb=>?_) (λa d e=>by have q:=congrArg Prod.snd e;cases q) ?_
  .have:b=s.heap.objs.size:=by simpa [bD,ad] using hb
   exact⟨_,this▸hs⟩
  .exact⟨rfl,xs,⟨0,hs⟩,h.mono (G.le_push ad),by exact AY hl⟩
 .exact .ref (a:=ad.1) (d:=ad.2) (by rw[I.size];exact G.push_get ad)
noncomputable def Gh.tup(G:Gh)(a:Addr)(xs:List Value):Gh:={ G with tups:=(a,xs)::G.tups }
theorem Gh.le_tup(G:Gh)(a xs):G.Le (G.tup a xs):=⟨λn a d e=>⟨d,e⟩,λZ h=>aLM _ h,λZ h=>h,λZ h=>h,λZ h=>.inl h,λZ h=>h⟩
theorem Inv.tup{k P G σ}{a xs}(I:Inv k P G σ s)(h:s.heap.IsTuple a xs.toArray):Inv k P (G.tup a xs) σ s where
 g0:=I.g0.trans (G.le_tup a xs)
 gens:=I.gens
 os:=I.os
 tk:=I.tk
 base:=I.base
 pins:=I.pins
 pinsB:=I.pinsB
 pinsK:=I.pinsK
 size:=I.size
 few:=I.few
 objs:=λn o e=>e12 (I.objs n o e) λad h1 h2=>⟨ad,h1,h2.at (G.le_tup a xs) λZ Z Z q=>q⟩
 full:=I.full
 apart:=I.apart
 own:=I.own
 tups:=λt ht=>by
  rcases List.mem_cons.mp ht with rfl|ht;.exact h
  .exact I.tups t ht
 rngs:=I.rngs
 excs:=I.excs
 fz:=I.fz
theorem FR.tup{S l G h}(F:FR S l G h)(a xs):FR S l (G.tup a xs) h:=
 F.leaf (G.le_tup a xs) (λZ Z Z e=>e) (λZ Z Z Z e Z=>e) λn ad b e hb=>.inl ⟨ad,e,hb⟩
theorem NB{S dA G σ}{ls:List V}{k:Nat}(I:Inv S.k S.P G σ s)(F:FR S dA G s.heap)(h:VRs G ls xs)(hl:ls.length<=1000000)(hk0:s.toks<=k:=by walk_at "t"):
 PQ S dA G (.ok (.tup ls) σ) (.ref s.heap.objs.size) { s with heap:=s.heap.push { cls:=.type "tuple",data:=.seq xs.toArray },toks:=k }:=by
 have hk:∀b ob,s.heap.get? b=some ob->(s.heap.push { cls:=.type "tuple",data:=.seq xs.toArray }).get? b=some ob:=λb ob e=>aLS _ e;have I':Inv S.k S.P G σ { s with heap:=s.heap.push { cls:=.type "tuple",data:=.seq xs.toArray },toks:=k }:=I.keeps rfl rfl hk;exact fH _ _ (G.tup s.heap.objs.size xs) rfl (G.le_tup _ _) (I'.tup ⟨_,aL4 _ rfl,rfl,0,rfl⟩) ((F.keeps hk).tup _ _) (.tup (aLQ _) (h.mono (G.le_tup _ _)) hl)
noncomputable def Gh.rng(G:Gh)(a:Addr)(x y z:Int):Gh:={ G with rngs:=(a,x,y,z)::G.rngs }
theorem Gh.le_rng(G:Gh)(a x y z):G.Le (G.rng a x y z):=⟨λn a d e=>⟨d,e⟩,λZ h=>h,λZ h=>aLM _ h,λZ h=>h,λZ h=>.inl h,λZ h=>h⟩
theorem Inv.rng{k P G σ}{a x y z t u v}(I:Inv k P G σ s)(h:IsRange s.heap a x y z t u v):Inv k P (G.rng a x y z) σ s where
 g0:=I.g0.trans (G.le_rng a x y z)
 gens:=I.gens
 os:=I.os
 tk:=I.tk
 base:=I.base
 pins:=I.pins
 pinsB:=I.pinsB
 pinsK:=I.pinsK
 size:=I.size
 few:=I.few
 objs:=λn o e=>e12 (I.objs n o e) λad h1 h2=>⟨ad,h1,h2.at (G.le_rng a x y z) λZ Z Z q=>q⟩
 full:=I.full
 apart:=I.apart
 own:=I.own
 tups:=I.tups
 rngs:=λt' ht=>by
  rcases List.mem_cons.mp ht with rfl|ht;.exact aBq _ _ _ h
  .exact I.rngs t' ht
 excs:=I.excs
 fz:=I.fz
theorem FR.rng{S l G h}(F:FR S l G h)(a x y z):FR S l (G.rng a x y z) h:=
 F.leaf (G.le_rng a x y z) (λZ Z Z e=>e) (λZ Z Z Z e Z=>e) λn ad b e hb=>.inl ⟨ad,e,hb⟩
theorem bI(l:List Nat):(⟨l.toArray⟩:Str).length=l.length:=by simp[Str.length]
theorem kL(a b:List Nat):(⟨a.toArray⟩:Str)++⟨b.toArray⟩=⟨(a++b).toArray⟩:=by refine(?_:Str.mk (a.toArray++b.toArray)=_);simp
theorem gY{S dA G σ}{ls:List Nat}{t k:Nat}(I:Inv S.k S.P G σ s)(F:FR S dA G s.heap)(hn:okS σ ls≠.stuck)(hk0:s.toks<=k:=by walk_at "t"):
 PQ S dA G (okS σ ls) (.str ⟨ls.toArray⟩ t) { s with toks:=k }:=by
 unfold okS at hn|-;refine e03 (bA hn) λh1 e1 h2=>?_;refine rwl (e1 ..) ?_;have:ls.length<100000:=by have:=aC.mp h1;rw[aD]at this;exact this
 exact dJ.done I.toks F (.str _ _ (AY this))
theorem oD{ls:List Nat}(hn:okS σ ls≠.stuck):ls.length<100000:=by unfold okS at hn;refine e03 (bA hn) λh1 Z Z=>?_;have:=aC.mp h1;rw[aD]at this;exact this
theorem mR{x:Option α}(h:ofO σ x≠.stuck):∃a,x=some a/\ofO σ x=.ok a σ:=by
 cases x with
 |none=>exact absurd rfl h
 |some a=>exact⟨a,rfl,rfl⟩
theorem fY{S l G σ}{i:Int}{t k:Nat}(I:Inv S.k S.P G σ s)(F:FR S l G s.heap)(hk0:s.toks<=k:=by walk_at "t"):PQ S l G (.ok (.int i) σ) (.int i t) { s with toks:=k }:=dJ.done I.toks F (.int _ _)
theorem SO(a:List Nat):∀(n:Nat) (x:Array Nat),(List.replicate n a.toArray).foldl (·++·) x=x++(iS a n).toArray:=by
 intro n;induction n with
 |zero=>intro x;show x=x++([]:List Nat).toArray;simp
 |succ n ih=>intro x;refine rwl (List.replicate_succ ..) (rwl (List.foldl_cons ..) (rwl (ih ..) (?_:x++a.toArray++(iS a n).toArray=x++(app a (iS a n)).toArray)));rw[cI,Array.append_assoc];simp
theorem VO(a:List Nat):iS a 1=a:=by show app a []=a;rw[cI];simp
theorem VP:∀n,iS [] n=[]:=by
 intro x9;induction x9 with
 |zero=>exact rfl
 |succ n aQ=>exact aQ
theorem QH(a:List Nat)(n:Nat):Txt.mul ⟨a.toArray⟩ (n:Int)=⟨(iS a n).toArray⟩:=by
 dsimp only[Txt.mul];by_cases h:(n:Int)<1;.refine rwl (if_pos h ..) ?_;have:n=0:=aFa h;subst this;rfl
 .refine rwl (if_neg h ..) ?_;by_cases h1:((n:Int) == 1||(⟨a.toArray⟩:Str).length == 0)=true
  .refine rwl (if_pos h1 ..) ?_;rcases Bool.or_eq_true _ _▸h1 with q|q
   .have:n=1:=by have:=eq_of_beq q;exact aE9 this
    subst this;rw[VO]
   .have:a=[]:=by have:=eq_of_beq q;rw[bI]at this;exact List.eq_nil_of_length_eq_zero this
    subst this;rw[VP]
  .refine rwl (if_neg h1 ..) ?_;show Str.mk _=_;rw[show((n:Int).toNat)=n from rfl,SO];simp
theorem HV(a:List Nat):∀n,(iS a n).length=n*a.length:=by
 intro x9;induction x9 with
 |zero=>show([]:List Nat).length=_;simp
 |succ n aQ=>refine(?_:(app a (iS a n)).length=_);rw[cI,aMe,aQ,Nat.succ_mul];exact aGn
theorem aIx(x:Value):∀(n:Nat) (y:Array Value),(List.replicate n #[x]).foldl (λx1 x2=>x1++x2) y=y++(List.replicate n x).toArray:=by
 intro n;induction n with
 |zero=>intro y;simp
 |succ n ih=>intro y;rw[List.replicate_succ,List.foldl_cons,ih,Array.append_assoc,List.replicate_succ];congr 1;simp only[List.append_toArray,List.cons_append,List.nil_append]
@[elab_as_elim] theorem VR.int_el{G i x}{P:Value->Prop}(h:VR G (.int i) x)(k:∀t,P (.int i t)):P x:=by cases h;exact k _
@[elab_as_elim] theorem VR.str_el{G l x}{P:Value->Prop}(h:VR G (.str l) x)(k:∀t,l.length<=1000000->P (.str ⟨l.toArray⟩ t)):P x:=by cases h;exact k _ (by assumption)
@[elab_as_elim] theorem VR.ref_el{G n x}{P:Value->Prop}(h:VR G (.ref n) x)(k:∀a d,G.φ[n]? = some (a,d)->P (.ref a)):P x:=by cases h;exact k _ _ (by assumption)
@[elab_as_elim] theorem VR.tup_el{G l x}{P:Value->Prop}(h:VR G (.tup l) x)(k:∀a xs,(a,xs)∈G.tups->VRs G l xs->l.length<=1000000->P (.ref a)):P x:=by cases h;exact k _ _ (by assumption) (by assumption) (by assumption)
@[elab_as_elim] theorem VR.frz_el{G l x}{P:Value->Prop}(h:VR G (.frz l) x)(k:∀a xs,(a,xs)∈G.fz->VRs G l xs->l.length<=1000000->P (.ref a)):P x:=by cases h;exact k _ _ (by assumption) (by assumption) (by assumption)
@[elab_as_elim] theorem VR.rng_el{G a b c x}{P:Value->Prop}(h:VR G (.rng a b c) x)(k:∀t,(t,a,b,c)∈G.rngs->P (.ref t)):P x:=by cases h;exact k _ (by assumption)
@[elab_as_elim] theorem VR.none_el{G x}{P:Value->Prop}(h:VR G .none x)(k:P .none):P x:=by cases h;exact k
@[elab_as_elim] theorem VR.bool_el{G b x}{P:Value->Prop}(h:VR G (.bool b) x)(k:P (.bool b)):P x:=by cases h;exact k
theorem VR.int_inv{G i x}(h:VR G (.int i) x):∃t,x=.int i t:=by cases h;exact⟨_,rfl⟩
theorem VR.str_inv{G l x}(h:VR G (.str l) x):∃t,x=.str ⟨l.toArray⟩ t/\l.length<=1000000:=by cases h;exact⟨_,rfl,by assumption⟩
theorem VR.ref_inv{G n x}(h:VR G (.ref n) x):∃a d,x=.ref a/\G.φ[n]? = some (a,d):=by cases h;exact⟨_,_,rfl,by assumption⟩
theorem VR.tup_inv{G l x}(h:VR G (.tup l) x):∃a xs,x=.ref a/\(a,xs)∈G.tups/\VRs G l xs/\l.length<=1000000:=by cases h;exact⟨_,_,rfl,by assumption,by assumption,by assumption⟩
theorem VR.frz_inv{G l x}(h:VR G (.frz l) x):∃a xs,x=.ref a/\(a,xs)∈G.fz/\VRs G l xs/\l.length<=1000000:=by cases h;exact⟨_,_,rfl,by assumption,by assumption,by assumption⟩
theorem VR.none_inv{G x}(h:VR G .none x):x=.none:=by cases h;rfl
theorem VR.bool_inv{G b x}(h:VR G (.bool b) x):x=.bool b:=by cases h;rfl
theorem VR.rng_inv{G a b c x}(h:VR G (.rng a b c) x):∃t,x=.ref t/\(t,a,b,c)∈G.rngs:=by cases h;exact⟨_,rfl,by assumption⟩
theorem cO{n:Nat}{z:α}{k:List V->α}(h:aP σ n z k≠z):∃l,σ.h.get n=some (.list l)/\aP σ n z k=k l:=by
 unfold aP at h|-;generalize σ.h.get n=q at h|-;cases q with
 |none=>exact absurd rfl h
 |some o=>
  cases o with
  |list l=>exact⟨_,rfl,rfl⟩
  |_=>exact absurd rfl h
theorem MX{n:Nat}{z:α}{k:List (List Nat×V)->α}(h:fT σ n z k≠z):∃l,σ.h.get n=some (.dict l)/\fT σ n z k=k l:=by
 unfold fT at h|-;generalize σ.h.get n=q at h|-;cases q with
 |none=>exact absurd rfl h
 |some o=>
  cases o with
  |dict l=>exact⟨_,rfl,rfl⟩
  |_=>exact absurd rfl h
theorem Inv.list{k P G σ}(I:Inv k P G σ s){n l a d}(hn:σ.h.get n=some (.list l))(ha:G.φ[n]? = some (a,d)):
 ∃xs m,s.heap.get? a=some (dZ xs m)/\VRs G l xs/\l.length<=1000000/\d=none:=by
 refine aLJ λaA=>?_;obtain⟨ad,h1,h2,xs,t49,h4,h5⟩:=I.objs n _ hn;obtain⟨m,h3⟩:=t49;rw[ha]at h1;cases h1;exact aA (aBs xs m h3 h4 h5 h2)
theorem VZ{w:World}{l:Addr}{items:Array Value}{k:Nat}{x:Int}{u:Tok}(hl:s.heap.get? l=some { cls:=.type "list",dict:=none,data:=.seq items k,slots:=#[] })(g0:¬(!Builtin.List.listFitsIndex x)=true)(g3:¬items.size*x.toNat>(2 ^ 63-1) / 8)(g2:¬Builtin.List.listTooLong (items.size*x.toNat)=true)(h:Q (.ref s.heap.objs.size) { s with heap:=s.heap.push { cls:=.type "list",data:=.seq (List.foldl (λx1 x2=>x1++x2) #[] (List.replicate (if items.isEmpty=true then 0 else x.toNat) items)) } }):
 wpAny (model prog w) A (binaryOp .Mult (.ref l) (.int x u)) Q E s:=
 wpAny_binaryOp_repeat_ref (T:="list") (U:="int") (by decide) ⟨_,hl,rfl⟩ (λs'=>typeIs_int s' x u) noFill_list_mul PySem.F.fills_int_mul PySem.F.slot_int_rmul repeat_list PySem.F.slot_int_index.lookup
  (call_meets PySem.F.slot_int_rmul (typeIs_int s x u) PySem.F.entry_int_rmul (PySem.F.args_int_rmul_2 _ _) (int___rmul___int_list x u l items k)
   ⟨hl,rfl,⟨_,hl,rfl⟩,call_meets PySem.F.slot_list_mul ⟨_,hl,rfl⟩ PySem.F.entry_list_mul (PySem.F.args_list_mul_2 _ _)
    (AutoListH.list___mul___list_int_3 l items k x u g0 g3 g2) ⟨hl,h⟩⟩)
theorem QG{w:World}{l:Addr}{y:Value}{k n:Nat}{u:Tok}(hl:s.heap.get? l=some (dZ [y] k))(hn:n<1000)(h:Q (.ref s.heap.objs.size) { s with heap:=s.heap.push { cls:=.type "list",data:=.seq (List.replicate n y).toArray } }):
 wpAny (model prog w) A (binaryOp .Mult (.ref l) (.int (n:Int) u)) Q E s:=by
 have e9:(List.foldl (λx1 x2=>x1++x2) #[] (List.replicate (if [y].toArray.isEmpty=true then 0 else (n:Int).toNat) [y].toArray))=(List.replicate n y).toArray:=by refine(?_:(List.replicate n #[y]).foldl (λx1 x2=>x1++x2) #[]=_);rw[aIx];simp
 have g1:Builtin.List.listFitsIndex (n:Int)=true:=by unfold Builtin.List.listFitsIndex;simp only[Bool.and_eq_true,decide_eq_true_eq];exact ZL hn
 have g0:¬(!Builtin.List.listFitsIndex (n:Int))=true:=by rw[g1];exact Bool.false_ne_true
 have g2:¬Builtin.List.listTooLong ([y].toArray.size*(n:Int).toNat)=true:=by unfold Builtin.List.listTooLong;rw[show((n:Int).toNat)=n from rfl,show [y].toArray.size=1 from rfl,Nat.one_mul,decide_eq_true_eq,aLW];exact aEM hn
 have g3:¬[y].toArray.size*(n:Int).toNat>(2 ^ 63-1) / 8:=by rw[show((n:Int).toNat)=n from rfl,show [y].toArray.size=1 from rfl,Nat.one_mul];exact aEN hn
 rw[<- e9]at h;exact VZ hl g0 g3 g2 h
theorem wZ{x y:Str}{t u:Tok}(hsz:x.length+y.length<=sizeLine)(h:∀t' k,s.toks<=k->Q (.str (x++y) t') { s with toks:=k }):
 (if x.length == 0 then Made.val (.str y u) else if y.length == 0 then Made.val (.str x t) else Made.str (x++y)).post Q s:=by
 by_cases hx:(x.length == 0)=true;.rw[if_pos hx];have h':=h u s.toks (aLO _);rw[Str.append_left_empty hx]at h';exact h'
 .refine rwl (if_neg hx ..) ?_;by_cases hy:(y.length == 0)=true;.rw[if_pos hy];have h':=h t s.toks (aLO _);rw[Str.append_right_empty hy]at h';exact h'
  .rw[if_neg hy];exact⟨by rw[strLen_append];exact hsz,h _ _ (aLV _)⟩
theorem QF{w:World}{x:Str}{t u:Tok}{n:Int}(hok:MulOk x n)(h:∀t' k,s.toks<=k->Q (.str (Txt.mul x n) t') { s with toks:=k }):wpAny (model prog w) A (binaryOp .Mult (.str x t) (.int n u)) Q E s:=by
 refine PySem.P.mul_str hok.1 hok.2.1 hok.2.2 ?_;unfold Txt.mul at h;by_cases h1:n<1;.rw[if_pos h1];have h':=h s.toks (s.toks+1) (aLV _);rw[if_pos h1]at h';exact⟨by decide,h'⟩
 .refine rwl (if_neg h1 ..) ?_;by_cases h2:(n == 1||x.length == 0)=true;.rw[if_pos h2];have h':=h t s.toks (aLO _);rw[if_neg h1,if_pos h2]at h';exact h'
  .rw[if_neg h2];have h':=h s.toks (s.toks+1) (aLV _);rw[if_neg h1,if_neg h2]at h';exact⟨PySem.fits_reps (hok.2.2 h1 (by simpa using h2)),h'⟩
theorem MF{S l G σ}{op:BO}{a b:V}{x y:Value}(I:Inv S.k S.P G σ s)(F:FR S l G s.heap)(ha:VR G a x)(hb:VR G b y):
 dJ S l G (gA op a b σ) (binaryOp (sX op) x y) s:=by
 intro hn;cases a with
 |int a=>
  cases b with
  |int b=>dsimp only[gA,vI,vS,vR]at hn|-;refine ha.int_el λt=>?_;obtain⟨u,aE⟩:=hb.int_inv;subst aE;refine e12 (mR hn) λv e e'=>?_;obtain⟨i,rfl,k⟩:=JU (prog:=S.k.prog) (w:=S.k.w) (A:=S.A) (E:=PX S l G (ofO σ (TU op _ _))) (s:=s) e;rw[e']at *;exact(k t u _ λt k hk=>fY I F).1
  |_=>exact absurd rfl hn
 |str a=>
  cases b with
  |str b=>
   dsimp only[gA,vI,vS,vR]at hn|-;refine e12 ha.str_inv λt aE ht=>?_;subst aE;refine hb.str_el λu hu=>?_;obtain⟨h1,e,h2⟩:=(bA hn);cases op<;>first|(cases h1;done)|skip
   refine rwl (e ..) ?_;rw[cI]at h2;exact rwl (cI ..) (PySem.P.add_str (wZ (by rw[bI,bI,aLW];exact aAi ht hu) λt' k hk=>rwl (kL ..) (gY I F h2)))
  |int b=>
   dsimp only[gA,vI,vS,vR]at hn|-;refine e12 ha.str_inv λt aE ht=>?_;subst aE;obtain⟨u,aE⟩:=hb.int_inv;subst aE;refine e03 (bA hn) λh1 e h2=>?_;cases op<;>first|(cases h1;done)|skip
   rw[e];cases b with
   |negSucc n=>exact absurd rfl h2
   |ofNat n=>
    refine e03 (bA (show sel (Nat.blt n 1000) (okS σ (iS a n)) .stuck≠.stuck from h2)) λh3 e3 h4=>((rwl (e3 ..) ?_):wpAny S.k.M S.A (binaryOp .Mult _ _) (PQ S l G (sel (Nat.blt n 1000) (okS σ (iS a n)) .stuck)) (PX S l G (sel (Nat.blt n 1000) (okS σ (iS a n)) .stuck)) s);have hl:=oD h4;rw[HV]at hl;have hn':=aC.mp h3;refine QF (n:=(n:Int)) ⟨?_,λq1 q2 q=>?_,λq1 q2=>?_⟩ λt' k hk=>?_;.rw[Bool.or_eq_false_iff];exact⟨decide_eq_false (NZ),decide_eq_false (ZJ hn')⟩
    .rw[bI]at q;have h0:(0:Int)<n:=ZD q1;have:(a.length:Int)*n<=2 ^ 63-1:=by have h6:((n*a.length:Nat):Int)<100000:=Int.ofNat_lt.mpr hl;rw[Int.mul_comm,<- Int.natCast_mul];exact aAL hl
     have:=(Int.le_ediv_iff_mul_le h0).mpr this;exact aAP q this
    .refine rwl (bI ..) ?_;show Builtin.Str.tooLong _=false;unfold Builtin.Str.tooLong;refine decide_eq_false ?_;rw[aLW,show((n:Int).toNat)=n from rfl,Nat.mul_comm];exact aAK hl
    .rw[QH];exact gY I F h4
  |_=>exact absurd rfl hn
 |ref a=>
  cases b with
  |int b=>
   dsimp only[gA,vI,vS,vR]at hn|-;refine ha.ref_el λa' d h0=>hb.int_el λu=>e03 (bA hn) λh1 e h2=>?_;cases op<;>first|(cases h1;done)|skip
   rw[e];cases b with
   |negSucc n=>exact absurd rfl h2
   |ofNat n=>
    refine e03 (bA (show sel (Nat.blt n 1000) (aP σ a .stuck λl=>lone l λx=>cZ σ (NP x n)) .stuck≠.stuck from h2)) λh3 e3 h4=>?_;show wpAny S.k.M S.A (binaryOp .Mult _ _) (PQ S l G (sel (Nat.blt n 1000) (aP σ a .stuck λl=>lone l λx=>cZ σ (NP x n)) .stuck)) (PX S l G (sel (Nat.blt n 1000) (aP σ a .stuck λl=>lone l λx=>cZ σ (NP x n)) .stuck)) s;rw[e3];refine e12 (cO h4) λls h5 e5=>?_;rw[e5]at h4|-;have hn':=aC.mp h3;refine e24 (I.list h5 h0) λxs m h6 h7 h8 mW=>?_;subst mW;unfold lone at h4|-;cases ls with
    |nil=>exact absurd rfl h4
    |cons z ls=>
     cases ls with
     |nil=>
      obtain⟨w,rfl,hw⟩:∃w,xs=[w]/\VR G z w:=by
       cases h7 with
       |cons p q=>cases q;exact⟨_,rfl,p⟩
      exact QG h6 hn' (iW (k:=s.toks) I F (VRs.rep hw n) h4)
     |cons _ _=>exact absurd rfl h4
  |ref b=>
   dsimp only[gA,vI,vS,vR]at hn|-;refine e22 ha.ref_inv λa' d bF h0=>?_;subst bF;refine hb.ref_el λb' d' h0'=>e03 (bA hn) λh1 e h2=>?_;cases op<;>first|(cases h1;done)|skip
   rw[e];obtain⟨ls,h5,e5⟩:=cO h2;rw[e5]at h2|-;obtain⟨ls',h5',e5'⟩:=cO h2;rw[e5']at h2|-;obtain⟨xs,m,h6,h7,h8,rfl⟩:=I.list h5 h0;obtain⟨xs',m',h6',h7',h8',rfl⟩:=I.list h5' h0';have hl:=h7.length;have hl':=h7'.length;refine P.add_list (items:=xs.toArray) (items2:=xs'.toArray) h6 h6' ?_ (by rw[aLW];simp;exact aD1 h8 h8' hl hl');have e9:xs.toArray++xs'.toArray=(xs++xs').toArray:=by simp
   rw[e9];exact iW (k:=s.toks) I F (h7.app h7') h2
  |_=>exact absurd rfl hn
 |_=>exact absurd rfl hn
theorem qI{S l G σ}{op:BO}{a b:V}{x y:Value}(I:Inv S.k S.P G σ s)(F:FR S l G s.heap)(ha:VR G a x)(hb:VR G b y):
 dJ S l G (iG op a b σ) (inplaceOp (sX op) x y) s:=by
 intro hn;cases a with
 |int a=>
  cases b with
  |int b=>dsimp only[iG,vI,vS]at hn|-;refine ha.int_el λt=>hb.int_el λu=>e12 (mR hn) λv e e'=>?_;obtain⟨i,rfl,k⟩:=JU (prog:=S.k.prog) (w:=S.k.w) (A:=S.A) (E:=PX S l G (ofO σ (TU op _ _))) (s:=s) e;rw[e']at *;exact(k t u _ λt k hk=>fY I F).2
  |_=>exact absurd rfl hn
 |str a=>
  cases b with
  |str b=>
   dsimp only[iG,vI,vS]at hn|-;refine ha.str_el λt ht=>hb.str_el λu hu=>e03 (bA hn) λh1 e h2=>?_;cases op<;>first|(cases h1;done)|skip
   refine rwl (e ..) ?_;rw[cI]at h2;exact rwl (cI ..) (PySem.P.iadd_str (wZ (by rw[bI,bI,aLW];exact aAi ht hu) λt' k hk=>rwl (kL ..) (gY I F h2)))
  |_=>exact absurd rfl hn
 |_=>exact absurd rfl hn
end Mine.Internal
end
noncomputable section
open PySem PySem.W PyProof.Rows PySem.Calls PySem.SeqAt
namespace Mine.Internal
variable {α:Type}{P:Prop}{s:Shared}{E:Value->Shared->Prop}{Q:Value->Shared->Prop}{S:Sit}{n:Nat}{G:Gh}{A:Around}{xs:List Value}{prog:Program}{es:List Expr}{e:Expr}{cs:List CE}{σ:St}{l:Loc}
noncomputable def cOf:CO->CmpOp
 |.eq=>.Eq|.ne=>.NotEq|.lt=>.Lt|.le=>.LtE|.gt=>.Gt|.ge=>.GtE|.is_=>.Is|.isn=>.IsNot|.in_=>.In|.nin=>.NotIn
structure Eqs(A:Around)(s:Shared)(x y:Value)(k:Bool):Prop where
 atE:EqAt A s x y k
 rc:RcAt A s x y k
 ne:RcNeAt A s x y (!k)
theorem HP(a b:List Nat):((⟨a.toArray⟩:Str) == ⟨b.toArray⟩)=eqS a b:=by
 refine rwl (bQ ..) ?_;by_cases h:a=b;.subst h;simp
 .exact rwl (decide_eq_false h ..) (beq_eq_false_iff_ne.mpr λe=>h (nO.mp e))
theorem zE(a b:Int):(a == b)=eqB a b:=by
 refine rwl (eO ..) ?_;by_cases h:a=b;.subst h;simp
 .rw[decide_eq_false h];exact beq_eq_false_iff_ne.mpr h
theorem GH{a b:V}{x y:Value}{k:Bool}(h:eqT a b=some k)(ha:VR G a x)(hb:VR G b y):Eqs A s x y k:=by
 cases a with
 |none=>
  refine ha.none_el ?_;cases b with
  |none=>refine hb.none_el ?_;obtain rfl:=aLP h;exact⟨.same _,.none_none,.none_none⟩
  |int j=>refine hb.int_el λZ=>?_;obtain rfl:=aLP h;exact⟨.none_int _ _,.none_int _ _,.none_int _ _⟩
  |str l=>refine hb.str_el λZ Z=>?_;obtain rfl:=aLP h;exact⟨.none_str _ _,.none_str _ _,.none_str _ _⟩
  |_=>exact bV h
 |bool a=>
  refine ha.bool_el (aLJ λaA=>?_);cases b with
  |bool b=>refine aA ?_;refine hb.bool_el ?_;obtain rfl:=aLP h;exact⟨.bool_bool _ _,.bool_bool _ _,.bool_bool _ _⟩
  |_=>refine aA ?_;exact bV h
 |int a=>
  refine ha.int_el λZ=>?_;cases b with
  |none=>refine hb.none_el ?_;obtain rfl:=aLP h;exact⟨.int_none _ _,.int_none _ _,.int_none _ _⟩
  |int j=>refine hb.int_el λZ=>?_;obtain rfl:=aLP h;rw[<- zE];exact⟨.int_int _ _ _ _,.int_int _ _ _ _,.int_int _ _ _ _⟩
  |str l=>refine hb.str_el λZ Z=>?_;obtain rfl:=aLP h;exact⟨.int_str _ _ _ _,.int_str _ _ _ _,.int_str _ _ _ _⟩
  |_=>exact bV h
 |str a=>
  refine ha.str_el λZ Z=>?_;cases b with
  |none=>refine hb.none_el ?_;obtain rfl:=aLP h;exact⟨.str_none _ _,.str_none _ _,.str_none _ _⟩
  |int j=>refine hb.int_el λZ=>?_;obtain rfl:=aLP h;exact⟨.str_int _ _ _ _,.str_int _ _ _ _,.str_int _ _ _ _⟩
  |str l=>refine hb.str_el λZ Z=>?_;obtain rfl:=aLP h;rw[<- HP];exact⟨.str_str _ _ _ _,.str_str _ _ _ _,.str_str _ _ _ _⟩
  |_=>exact bV h
 |_=>exact bV h
theorem TA{a b:V}{x:Value}{k:Bool}(h:eqT a b=some k)(ha:VR G a x)(hb:VR G b x):k=true:=by
 cases a with
 |none=>
  refine aLJ λz=>?_;have e1:=ha.none_inv;cases b with
  |none=>exact z (aLP h).symm
  |int j=>refine e11 hb.int_inv λt e2=>?_;cases e1.symm.trans e2
  |str l=>refine e12 hb.str_inv λt e2 Z=>?_;cases e1.symm.trans e2
  |_=>exact bV h
 |bool a=>
  have e1:=ha.bool_inv;cases b with
  |bool b=>have e2:=e1.symm.trans hb.bool_inv;injection e2 with e2;subst e2;refine rwr (aLP h) ?_;simp
  |_=>exact bV h
 |int a=>
  refine aLJ λz=>aLJ λaA=>e11 ha.int_inv λt e1=>?_;cases b with
  |none=>refine aA ?_;cases e1.symm.trans hb.none_inv
  |int j=>refine e11 hb.int_inv λu e2=>?_;have e3:=e1.symm.trans e2;injection e3 with e3;subst e3;obtain rfl:=aLP h;refine aA (z ?_);rw[<- zE];simp
  |str l=>refine aA ?_;refine e12 hb.str_inv λt e2 Z=>?_;cases e1.symm.trans e2
  |_=>refine aA ?_;exact bV h
 |str a=>
  refine aLJ λz=>e12 ha.str_inv λt e1 Z=>?_;cases b with
  |none=>cases e1.symm.trans hb.none_inv
  |int j=>refine e11 hb.int_inv λu e2=>?_;cases e1.symm.trans e2
  |str l=>refine e12 hb.str_inv λu e2 Z=>?_;have e3:=e1.symm.trans e2;injection e3 with e3;have:=nO.mp e3;subst this;obtain rfl:=aLP h;refine z ?_;rw[bQ];simp
  |_=>exact bV h
 |_=>exact bV h
def eqK(t:Bool)(r:Option Bool):Option Bool:=Bool.rec (Option.rec none (λZ=>some false) r) r t
theorem TD{t:Bool}{r:Option Bool}{k:Bool}(h:eqK t r=some k):∃k',r=some k'/\k=(t&&k'):=by
 cases t with
 |true=>exact⟨k,h,rfl⟩
 |false=>cases r with
  |none=>cases h
  |some k'=>cases h;exact⟨k',rfl,rfl⟩
theorem oU(x y:V)(l r:List V):eqL (x::l) (y::r)=(eqT x y).bind λt=>eqK t (eqL l r):=by refine(?_:(Option.rec none (λt=>eqK t (eqL l r)) (eqT x y):Option Bool)=_);cases eqT x y<;>rfl
theorem xZ(x y:V)(l r:List V):CX (x::l) (y::r)=(eqV x y).bind λt=>eqK t (CX l r):=by refine(?_:(Option.rec none (λt=>eqK t (CX l r)) (eqV x y):Option Bool)=_);cases eqV x y<;>rfl
def kD(A:Around)(s:Shared)(xs ys:List Value)(k:Bool):Prop:=
 ∃e:Nat->Bool,(∀(j:Nat) (h1:j<xs.length) (h2:j<ys.length),EqAt A s xs[j] ys[j] (e j))/\((List.range (min xs.length ys.length)).all e&&xs.length == ys.length)=k
theorem kD.nil{A s}:kD A s [] [] true:=⟨λZ=>true,λj h1 Z=>(by cases h1),rfl⟩
theorem kD.nil_cons{A s x xs}:kD A s [] (x::xs) false:=⟨λZ=>true,λj h1 Z=>(by cases h1),rfl⟩
theorem kD.cons_nil{A s x xs}:kD A s (x::xs) [] false:=⟨λZ=>true,λj Z h1=>(by cases h1),by simp⟩
theorem uM(e:Nat->Bool)(n:Nat):(List.range (n+1)).all e=(e 0&&(List.range n).all λj=>e (j+1)):=by rw[List.range_succ_eq_map,List.all_cons,List.all_map];rfl
theorem kD.cons{A s x y xs ys t k}(h:EqAt A s x y t)(r:kD A s xs ys k):kD A s (x::xs) (y::ys) (t&&k):=by
 refine e12 r λe h1 h2=>⟨λj=>Nat.casesOn j t e,λj q1 q2=>?_,?_⟩
 .cases j with
  |zero=>exact h
  |succ j=>exact h1 j (by simpa using q1) (by simpa using q2)
 .refine rwl (List.length_cons ..) (rwl (List.length_cons ..) (rwl (Nat.succ_min_succ ..) (rwl (uM ..) (rwr (h2 ..) (rwl (Bool.and_assoc ..) ?_)))));congr 2;simp
theorem TE{o r:Option Bool}{k:Bool}(h:(o.bind λt=>eqK t r)=some k)(c:∀t k',o=some t->r=some k'->k=(t&&k')->P):P:=by
 cases o with
 |none=>cases h
 |some t=>exact(TD h).elim λk' h=>c t k' rfl h.1 h.2
theorem CY{f:V->V->Option Bool}{g:List V->List V->Option Bool}(hc:∀x y l r,g (x::l) (y::r)=((f x y).bind λt=>eqK t (g l r)))(h0:g [] []=some true)(h1:∀y r,g [] (y::r)=some false)(h2:∀x l,g (x::l) []=some false)(at_:∀{x y u v t},f x y=some t->VR G x u->VR G y v->EqAt A s u v t){a b:List V}{xs ys:List Value}{k:Bool}(h:g a b=some k)(ha:VRs G a xs)(hb:VRs G b ys):kD A s xs ys k:=by
 induction ha using VRs.ind generalizing b ys k with
 |nil=>
  cases b with
  |nil=>rw[hb.of_nil];rw[h0]at h;cases h;exact .nil
  |cons y r=>rw[h1]at h;cases h;exact hb.of_cons λZ Z e Z Z=>e▸.nil_cons
 |cons hx hl ih=>
  cases b with
  |nil=>rw[hb.of_nil];rw[h2]at h;cases h;exact .cons_nil
  |cons y r=>rw[hc]at h;exact hb.of_cons λZ Z e hy hr=>TE h λZ Z e1 e2 e3=>e▸e3▸.cons (at_ e1 hx hy) (ih e2 hr)
theorem aCR{a b:List V}{xs ys:List Value}{k:Bool}(h:eqL a b=some k)(ha:VRs G a xs)(hb:VRs G b ys):kD A s xs ys k:=
 CY oU rfl (λZ Z=>rfl) (λZ Z=>rfl) (λh a b=>(GH h a b).atE) h ha hb
theorem TC{a b:List V}{k:Bool}(h:eqL a b=some k)(ha:VRs G a xs)(hb:VRs G b xs):k=true:=by
 induction ha using VRs.ind generalizing b k with
 |nil=>
  cases b with
  |nil=>cases h;rfl
  |cons y r=>cases hb
 |cons hx hl ih=>
  cases b with
  |nil=>cases hb
  |cons y r=>rw[oU]at h;exact hb.of_cons λZ Z e hy hr=>TE h λZ Z e1 e2 e3=>by injection e with e4 e5;subst e4 e5;rw[e3,TA e1 hx hy,ih e2 hr];rfl
theorem SY{a b:List V}:eqV (.tup a) (.tup b)=eqL a b:=rfl
theorem SZ{k:Kit}{P:List (Addr×Obj)}{a b:V}{x y:Value}{t:Bool}(I:Inv k P G σ s)(hu:A.units+2<cLine)(h:eqV a b=some t)(ha:VR G a x)(hb:VR G b y):Eqs A s x y t:=by
 unfold eqV at h;revert ha;refine wJ h (λx' h ha=>?_) λh ha=>?_
 .revert hb;refine wJ h (λy' h hb=>?_) λh hb=>?_
  .refine ha.tup_el λa' xs h1 h2 Z=>?_;refine hb.tup_el λb' ys h3 h4 Z=>?_;have t1:=I.tups _ h1;have t2:=I.tups _ h3;refine e12 (aCR (A:=A.in1) (s:=s) h h2 h4) λe h5 h6=>?_;have e1:((List.range (min xs.toArray.size ys.toArray.size)).all e&&xs.toArray.size == ys.toArray.size)=t:=by simpa using h6
   have h5':∀j (h1:j<xs.toArray.size) (h2:j<ys.toArray.size),EqAt A.in1 s xs.toArray[j] ys.toArray[j] (e j):=λj q1 q2=>by simpa using h5 j (by simpa using q1) (by simpa using q2)
   have rc:RcAt A s (.ref a') (.ref b') t:=e1▸RcAt.tuples t1 t2 (qY hu) h5';have ne:RcNeAt A s (.ref a') (.ref b') (!t):=e1▸RcNeAt.tuples t1 t2 (qY hu) h5';by_cases q:a'=b'
   .subst q;have:xs=ys:=by obtain⟨o,e2,_,n,e3⟩:=t1;obtain⟨o',e4,_,n',e5⟩:=t2;rw[e2]at e4;cases e4;rw[e3]at e5;injection e5 with e6;simpa using e6
    subst this;have:=TC h h2 h4;subst this;exact⟨.same _,rc,ne⟩
   .exact⟨.of_refs q rc,rc,ne⟩
  .revert hb;refine AC h (λh hb=>?_) λh hb=>bV h;refine ha.tup_el λa' xs h1 h2 Z=>?_;refine hb.none_el ?_;refine rwr (aLP h) ?_;exact⟨.tuple_none (I.tups _ h1) (qY hu),.tuple_none (I.tups _ h1) (qY hu),.tuple_none (I.tups _ h1) (qY hu)⟩
 .revert ha;refine AC h (λh ha=>?_) λh ha=>GH h ha hb;revert hb;refine wJ h (λy' h hb=>?_) λh hb=>GH h ha hb;refine ha.none_el ?_;refine hb.tup_el λa' xs h1 h2 Z=>?_;obtain rfl:=aLP h;exact⟨.none_tuple (I.tups _ h1) (qY hu),.none_tuple (I.tups _ h1) (qY hu),.none_tuple (I.tups _ h1) (qY hu)⟩
theorem XY{k:Kit}{P:List (Addr×Obj)}(I:Inv k P G σ s)(hu:A.units+2<cLine){a b:List V}{xs ys:List Value}{t:Bool}(h:CX a b=some t)(ha:VRs G a xs)(hb:VRs G b ys):kD A s xs ys t:=
 CY xZ rfl (λZ Z=>rfl) (λZ Z=>rfl) (λh a b=>(SZ I hu h a b).atE) h ha hb
structure Eqh(A:Around)(s:Shared)(x y:Value)(k:Bool):Prop where
 rc:RcAt A s x y k
 ne:RcNeAt A s x y (!k)
theorem eC{k:List V->Option α}{v:α}(h:aP σ n none k=some v):∃l,σ.h.get n=some (.list l)/\k l=some v:=by
 unfold aP at h;generalize σ.h.get n=q at h|-;cases q with
 |none=>exact bV h
 |some o=>
  cases o with
  |list l=>exact⟨_,rfl,h⟩
  |_=>exact bV h
theorem sG{k:List (List Nat×V)->Option α}{v:α}(h:fT σ n none k=some v):∃l,σ.h.get n=some (.dict l)/\k l=some v:=by
 unfold fT at h;generalize σ.h.get n=q at h|-;cases q with
 |none=>exact bV h
 |some o=>
  cases o with
  |dict l=>exact⟨_,rfl,h⟩
  |_=>exact bV h
theorem TF{k:Kit}{P:List (Addr×Obj)}{a b:V}{x y:Value}{t:Bool}(I:Inv k P G σ s)(hu:A.units+5<cLine)(h:eqH σ a b=some t)(ha:VR G a x)(hb:VR G b y):Eqh A s x y t:=by
 unfold eqH at h;revert ha;refine mE h (λx' h ha=>?_) λh ha=>?_
 .revert hb;refine mE h (λy' h hb=>?_) λh hb=>?_
  .refine ha.ref_el λa' d h1=>?_;refine hb.ref_el λb' d' h2=>?_;refine aLJ λaA=>?_;refine e12 (eC h) λl h3 h4=>?_;refine e12 (eC h4) λr h5 h6=>?_;refine e24 (I.list h3 h1) λxs m e1 v1 Z Z=>?_;refine e24 (I.list h5 h2) λys m' e2 v2 Z Z=>?_;have l1:s.heap.IsList a' xs.toArray:=dT.isList ⟨m,e1⟩;have l2:s.heap.IsList b' ys.toArray:=dT.isList ⟨m',e2⟩;refine e12 (XY (A:=A.in1) I (by show A.units+1+2<cLine;exact aGp hu) h6 v1 v2) λe h7 h8=>?_;have h7':∀j (h1:j<xs.toArray.size) (h2:j<ys.toArray.size),EqAt A.in1 s xs.toArray[j] ys.toArray[j] (e j):=λj q1 q2=>by simpa using h7 j (by simpa using q1) (by simpa using q2)
   by_cases q:xs.toArray.size=ys.toArray.size
   .have e3:(List.range xs.toArray.size).all e=t:=by
     refine rwr (h8 ..) ?_;have q':xs.length=ys.length:=by simpa using q
     simp[q']
    exact aA ⟨e3▸.lists l1 l2 q (qX hu) h7',e3▸.lists l1 l2 q (qX hu) h7'⟩
   .have e3:t=false:=by
     refine rwr (h8 ..) ?_;have q':xs.length≠ys.length:=by simpa using q
     exact rwl (beq_eq_false_iff_ne.mpr q' ..) (rwl (Bool.and_false ..) rfl)
    subst e3;have q':(xs.toArray.size != ys.toArray.size)=true:=bne_iff_ne.mpr q;exact aA ⟨.lists_lengths l1 l2 q' (qX hu),.lists_lengths l1 l2 q' (qX hu)⟩
  .revert hb;refine AC h (λh hb=>?_) λh hb=>bV h;refine ha.ref_el λa' d h1=>?_;refine hb.none_el ?_;refine aLJ λaA=>?_;refine e12 (eC h) λl h3 h4=>?_;refine e24 (I.list h3 h1) λxs m e1 v1 Z Z=>?_;have l1:s.heap.IsList a' xs.toArray:=dT.isList ⟨m,e1⟩;refine aA ?_;refine rwr (aLP h4) ?_;exact⟨.list_none l1 (qX hu),.list_none l1 (qX hu)⟩
 .have other:∀{a b:V},eqV a b=some t->VR G a x->VR G b y->Eqh A s x y t:=λh ha hb=>by have:=SZ (A:=A) I (aGo hu) h ha hb;exact⟨this.rc,this.ne⟩
  revert ha;refine AC h (λh ha=>?_) λh ha=>other h ha hb;revert hb;refine mE h (λy' h hb=>?_) λh hb=>other h ha hb;refine ha.none_el ?_;refine hb.ref_el λa' d h1=>?_;refine e12 (eC h) λl h3 h4=>?_;refine e24 (I.list h3 h1) λxs m e1 v1 Z Z=>?_;have l1:s.heap.IsList a' xs.toArray:=dT.isList ⟨m,e1⟩;obtain rfl:=aLP h4;exact⟨.none_list l1 (qX hu),.none_list l1 (qX hu)⟩
theorem KY(x y:List Nat)(l:List V):kQ x (.str y::l)=(kQ x l).map λb=>eqS x y||b:=by refine(?_:(Bool.rec (kQ x l) (Option.rec none (λZ=>some true) (kQ x l)) (eqS x y):Option Bool)=_);cases eqS x y<;>cases kQ x l<;>rfl
theorem TB(a b:List Nat):eqS a b=eqS b a:=by
 rw[bQ,bQ];by_cases h:a=b;.subst h;rfl
 .exact rwl (decide_eq_false h ..) (rwl (decide_eq_false (aMd h) ..) rfl)
noncomputable def LM(x:List Nat):Value->Bool
 |.str y _=>y == ⟨x.toArray⟩
 |_=>false
theorem IS{x:List Nat}{u:Tok}{l:List V}{t:Bool}(h:kQ x l=some t)(r:VRs G l xs):
 (∀y,y∈xs->EqAt A s y (.str ⟨x.toArray⟩ u) (LM x y))/\xs.any (LM x)=t:=by
 induction r using VRs.ind generalizing t with
 |nil=>cases h;exact⟨λy hy=>(by cases hy),rfl⟩
 |@cons v _ l _ hv hl ih=>
  have:∃y,v=.str y:=by
   refine aLJ λaA=>?_;cases v with
   |str y=>refine aA ?_;exact⟨y,rfl⟩
   |_=>cases h
  obtain⟨y,aE⟩:=this;subst aE;rw[KY]at h;refine hv.str_el λu' Z=>aLJ λaA=>?_;cases q:kQ x l with
  |none=>refine aA ?_;rw[q]at h;cases h
  |some b=>
   rw[q]at h;cases h;refine e02 (ih q) λh1 h2=>aA ⟨λz hz=>?_,?_⟩
   .rcases List.mem_cons.mp hz with rfl|hz;.exact .str_str _ _ _ _
    .exact h1 z hz
   .exact rwl (List.any_cons ..) (rwl (h2 ..) ((rwl (HP ..) (rwl (TB ..) rfl)):((⟨y.toArray⟩:Str) == ⟨x.toArray⟩||b)=_))
theorem jB(p:List Nat×V)(l)(a):cN (p::l) a=bif eqS p.1 a then some p.2 else cN l a:=by refine(?_:(Bool.rec (cN l a) (some p.2) (eqS p.1 a):Option V)=_);cases eqS p.1 a<;>rfl
theorem zM{w:World}{a:List Nat}:∀{l es},hZ prog w G l es->(∀v,cN l a=some v->∃x,valueAt es (bS a)=some x/\VR G v x)/\(cN l a=none->valueAt es (bS a)=none):=by
 intro l es h9;induction h9 with
 |nil=>exact⟨λv h=>(by cases h),λZ=>rfl⟩
 |@cons k _ _ x xs hk hv r ih=>
  obtain⟨h1,h2⟩:=ih;refine rwl (jB ..) ?_;have e:valueAt ((bS k,x)::xs) (bS a)=if k=a then some x else valueAt xs (bS a):=by
   unfold valueAt;refine rwl (List.find?_cons ..) ?_;by_cases q:k=a;.subst q;simp
   .have:¬bS k=bS a:=λe=>q (nO.mp e);exact rwl (if_neg q ..) (rwl (decide_eq_false this ..) rfl)
  refine rwl (e ..) (rwl (bQ ..) ?_);by_cases q:k=a;.subst q;simp only[decide_true,cond_true,if_true];exact⟨λv h=>by cases h;exact⟨x,rfl,hv⟩,λh=>by cases h⟩
  .rw[decide_eq_false q,if_neg q];exact⟨h1,h2⟩
structure bX(k:Kit):Prop where
 tk1:1<=k.tk
 frag:k.K.In k.B
 nolimit:k.B.NoLimit
 nsG:k.B.Ns mainGlobals k.mg
 nsB:k.B.Ns builtinsNs k.mb
 glob:∀i,i<k.T.ng->∃y,k.mg (k.T.gn i)=some y/\VR k.G0 (k.gt i) y
 nxc:k.T.nx<=k.T.nc
 na:k.T.na<=100
 clsGet:∀c,k.T.nx<=c->c<k.T.nc->findIn k.K (.ref (k.T.ca c)) "__getattribute__" = some (some (.builtin "object.__getattribute__"))
 excGet:∀c,c<k.T.nx->findIn k.K (.ref (k.T.ca c)) "__getattribute__" = some (some (.builtin "BaseException.__getattribute__"))/\findIn k.K (.ref (k.T.ca c)) "__getattr__" = some none/\oM k.K (k.T.ca c)=true
 clsAll:∀c,c<k.T.nc->hasDictIn k.K (k.T.ca c)=true/\findIn k.K (.ref (k.T.ca c)) "__setattr__" = some (some (.builtin "object.__setattr__"))/\gX k.K (k.T.ca c)=true
 clsAttr:∀c a,c<k.T.nc->a<k.T.na->(∃attr,findIn k.K (.ref (k.T.ca c)) (k.T.an a)=some attr/\noGet k.K attr=true)/\takerIn k.K (k.T.ca c) (k.T.an a)=some none
theorem Inv.dict{k P G σ}(I:Inv k P G σ s){l:List (List Nat×V)}{a:Addr}{d:Option Addr}(hn:σ.h.get n=some (.dict l))(ha:G.φ[n]? = some (a,d)):
 d=none/\∃es ep,s.heap.DictAt (strKind k.prog k.w) a es ep/\hZ k.prog k.w G l es/\l.length<=1000000/\a≠sysModules:=by
 refine aLJ λaA=>?_;refine e12 (I.objs n _ hn) λad h1 h2=>?_;rw[ha]at h1;cases h1;exact aA h2
theorem nN{w:World}(a:List Nat)(t:Tok):(strKind prog w).is (bS a) (.str ⟨a.toArray⟩ t)=true:=by refine(?_:(Value.str ⟨a.toArray⟩ t).isStr ⟨a.toArray⟩=true);simp[Value.isStr]
theorem EN{o:Option V}:HQ o=o.isSome:=by cases o<;>rfl
theorem bR{α β:Type}{x:Option α}{k:α->Option β}{v:β}(h:(Option.rec none k x:Option β)=some v):∃a,x=some a/\k a=some v:=by
 cases x with
 |none=>cases h
 |some a=>exact⟨a,rfl,h⟩
theorem JC{G σ}{a b:V}{x y:Value}{t:Bool}{E}(I:Inv S.k S.P G σ s)(ok:bX S.k)(h:inV σ a b=some t)(ha:VR G a x)(hb:VR G b y):
 ((∀k,s.toks<=k->Q (.bool t) { s with toks:=k })->wpAny S.k.M A (compareOp .In x y) Q E s)/\((∀k,s.toks<=k->Q (.bool (!t)) { s with toks:=k })->wpAny S.k.M A (compareOp .NotIn x y) Q E s):=by
 unfold inV at h;revert ha;refine qL h (λz h ha=>?_) λh ha=>bV h;revert hb;refine wJ h (λl h hb=>?_) λh hb=>?_
 .refine aLJ λaA=>?_;obtain⟨u,aE,_⟩:=ha.str_inv;subst aE;refine aA ?_;refine hb.tup_el λb' xs h1 h2 Z=>?_;obtain⟨h3,h4⟩:=(IS (A:=A.in1) (s:=s) (u:=u) h h2);have e:xs.toArray.any (LM z)=t:=by simpa using h4
  have h3':∀y,y∈xs.toArray->EqAt A.in1 s y (.str ⟨z.toArray⟩ u) (LM z y):=λy hy=>h3 y (by simpa using hy);exact⟨λq=>in_tupleAt _ (I.tups _ h1) h3' (e▸q s.toks (aLO _)),λq=>notIn_tupleAt _ (I.tups _ h1) h3' (e▸q s.toks (aLO _))⟩
 .revert hb;refine mE h (λn h hb=>?_) λh hb=>bV h;refine aLJ λaA=>?_;refine e12 ha.str_inv λu aE Z=>?_;subst aE;refine aA ?_;refine hb.ref_el λb' d h1=>?_;refine aLJ λaA=>?_;refine e12 (bR h) λo hl h=>?_;cases o with
  |list l=>
   refine e24 (I.list hl h1) λxs m e1 v1 Z Z=>?_;have l1:s.heap.IsList b' xs.toArray:=dT.isList ⟨m,e1⟩;refine e02 (IS (A:=A.in1) (s:=s) (u:=u) h v1) λh3 h4=>?_;have e:xs.toArray.any (LM z)=t:=by simpa using h4
   have h3':∀y,y∈xs.toArray->EqAt A.in1 s y (.str ⟨z.toArray⟩ u) (LM z y):=λy hy=>h3 y (by simpa using hy);exact aA ⟨λq=>in_listAt _ l1 h3' (e▸q s.toks (aLO _)),λq=>notIn_listAt _ l1 h3' (e▸q s.toks (aLO _))⟩
  |dict kvs=>
   have hd:=hl;obtain⟨_,es,ep,d1,kr,_,hsys⟩:=I.dict hd h1;have e:(valueAt es (bS z)).isSome=t:=by
    refine rwr (aLP h) (rwl (EN ..) (e02 (zM (a:=z) kr) λh5 h6=>?_));cases q:cN kvs z with
    |none=>rw[h6 q];rfl
    |some v=>obtain⟨x,h7,_⟩:=h5 v q;rw[h7];rfl
   have ns:(_ == sysModules)=false:=beq_eq_false_iff_ne.mpr hsys;exact aA ⟨λq=>wpAny_in_of (knd:=strKind S.k.prog S.k.w) (nN z u) ns d1.dictOf.mapOf (e▸q _ (aLV _)),λq=>wpAny_notIn_of (knd:=strKind S.k.prog S.k.w) (nN z u) ns d1.dictOf.mapOf (e▸q _ (aLV _))⟩
  |_=>exact bV h
theorem MC{S l G σ}{b:Bool}{k:Nat}(I:Inv S.k S.P G σ s)(F:FR S l G s.heap)(hk0:s.toks<=k:=by walk_at "t"):PQ S l G (okB σ (some b)) (.bool b) { s with toks:=k }:=by
 cases b with
 |true=>exact dJ.done I.toks F (.bool _)
 |false=>exact dJ.done I.toks F (.bool _)
theorem aCm{x:Option Bool}(h:okB σ x≠.stuck):∃b,x=some b:=by
 cases x with
 |none=>exact absurd rfl h
 |some b=>exact⟨b,rfl⟩
theorem pK{x:Option Bool}{b:Bool}(h:uZ x=some b):x=some (!b):=by
 cases x with
 |none=>cases h
 |some c=>cases h;cases c<;>rfl
theorem lU{a b:V}{k:Int->Int->Bool}{t:Bool}(h:LK a b k=some t):∃i j,a=.int i/\b=.int j/\k i j=t:=by unfold LK at h;exact jW h (λi h=>jW h (λj h=>bM _ _ rfl rfl (aLP h)) λh=>bV h) λh=>bV h
theorem CD{a b:V}{x y:Value}{t:Bool}(h:isN a b=some t)(ha:VR G a x)(hb:VR G b y):y=.none/\t=(x == .none):=by unfold isN at h;revert hb;refine AC h (λh hb=>⟨hb.none_inv,rwr (aLP h) ?_⟩) λh hb=>bV h;cases ha<;>rfl
theorem mA{l G σ}{op:CO}{v w:V}{x y:Value}(ok:bX S.k)(hu:S.A.units+5<cLine)(I:Inv S.k S.P G σ s)(F:FR S l G s.heap)(ha:VR G v x)(hb:VR G w y){t:Bool}(ht:cT σ op v w=some t)(hQ:∀s',Inv S.k S.P G σ s'->FR S l G s'.heap->Q (.bool t) s'):wpAny S.k.M S.A (compareOp (cOf op) x y) Q E s:=by
 cases op with
 |eq=>exact(TF (A:=S.A) I hu ht ha hb).rc _ _ _ _ (hQ _ I F)
 |ne=>have:=(TF (A:=S.A) I hu (pK ht) ha hb).ne S.k.prog S.k.w E Q;rw[Bool.not_not]at this;exact this (hQ _ I F)
 |lt=>refine e23 (lU ht) λi j bF fK h=>?_;subst bF fK;refine e11 ha.int_inv λu aE=>?_;subst aE;refine e11 hb.int_inv λv aE=>?_;subst aE;rw[pO]at h;exact lt_int (h.symm▸hQ _ I F)
 |le=>refine e23 (lU ht) λi j bF fK h=>?_;subst bF fK;refine e11 ha.int_inv λu aE=>?_;subst aE;refine e11 hb.int_inv λv aE=>?_;subst aE;rw[QP]at h;exact le_int (h.symm▸hQ _ I F)
 |gt=>refine e23 (lU ht) λi j bF fK h=>?_;subst bF fK;refine e11 ha.int_inv λu aE=>?_;subst aE;refine e11 hb.int_inv λv aE=>?_;subst aE;rw[pO]at h;exact gt_int (h.symm▸hQ _ I F)
 |ge=>refine e23 (lU ht) λi j bF fK h=>?_;subst bF fK;refine e11 ha.int_inv λu aE=>?_;subst aE;refine e11 hb.int_inv λv aE=>?_;subst aE;rw[QP]at h;exact ge_int (h.symm▸hQ _ I F)
 |is_=>refine e02 (CD ht ha hb) λzF h=>?_;subst zF;exact is_none_gen (h▸hQ _ I F)
 |isn=>refine e02 (CD (pK ht) ha hb) λzF h=>rwl zF (isnot_none_gen ?_);rw[<- h,Bool.not_not];exact hQ _ I F
 |in_=>exact(JC I ok ht ha hb).1 λk hk=>hQ _ I.toks F
 |nin=>refine(JC I ok (pK ht) ha hb).2 λk hk=>?_;rw[Bool.not_not];exact hQ _ I.toks F
theorem JP{S l G σ}{op:CO}{a b:V}{x y:Value}(ok:bX S.k)(hu:S.A.units+5<cLine)(I:Inv S.k S.P G σ s)(F:FR S l G s.heap)(ha:VR G a x)(hb:VR G b y):
 dJ S l G (okB σ (cT σ op a b)) (compareOp (cOf op) x y) s:=by
 intro hn;refine e11 (aCm hn) λt e=>?_;refine rwl (e ..) ?_;exact mA ok hu I F ha hb e λs' I' F'=>MC (k:=s'.toks) I' F'
def wF{α β:Type}(R:Gh->α->β->Prop)(S:Sit)(f:Loc->St->RE α)(t:Sem β):Prop:=
 ∀ ⦃l G σ s⦄,Inv S.k S.P G σ s->FR S l G s.heap->dL S.A G->lI R S l G (f l σ) t s
abbrev aH(S:Sit)(f:Loc->St->RE V)(e:Expr):Prop:=wF VR S f (eval e S.env)
abbrev EqR:Gh->Bool->Bool->Prop:=λZ a b=>a=b
def tr(v:V)(s:St):RE Bool:=ofO s (gL s v)
def dC(S:Sit)(f:Loc->St->RE V)(e:Expr):Prop:=wF EqR S (λl s=>(f l s).bind tr) (isTrue e S.env (eval e S.env))
inductive cU{α β:Type}(R:α->β->Prop):List α->List β->Prop where
 |nil:cU R [] []
 |cons {a b l r}:R a b->cU R l r->cU R (a::l) (b::r)
theorem cU.imp{α β:Type}{R R':α->β->Prop}(h:∀a b,R a b->R' a b){l r}(x:cU R l r):cU R' l r:=x.rec (motive:=λl r Z=>cU R' l r) .nil λa Z r=>.cons (h _ _ a) r
theorem dO{α β:Type}{x:Option α}{k:α->RE β}(h:eZ x k≠.stuck):∃a,x=some a/\eZ x k=k a:=by
 cases x with
 |none=>exact absurd rfl h
 |some a=>exact⟨a,rfl,rfl⟩
theorem LX(l:List Nat):((((⟨l.toArray⟩:Str).length:Int)) != 0)=cW (gH l):=by
 refine rwl (bI ..) ?_;cases l with
 |nil=>rfl
 |cons a l=>show _=true;exact bne_iff_ne.mpr (by simp;exact aEg)
theorem jJ{k:Kit}{P:List (Addr×Obj)}{v:V}{x:Value}{b:Bool}{Q:Bool->Shared->Prop}(I:Inv k P G σ s)(h:gL σ v=some b)(hv:VR G v x)(hq:∀t,s.toks<=t->Q b { s with toks:=t }):wpAny k.M A (truthy x) Q E s:=by
 cases v with
 |none=>refine hv.none_el ?_;obtain rfl:=aLP h;exact truthy_none (hq s.toks (aLO _))
 |bool b=>refine hv.bool_el ?_;obtain rfl:=aLP h;exact wpAny_truthy_bool (hq s.toks (aLO _))
 |int i=>
  refine hv.int_el λt=>?_;obtain rfl:=aLP h;refine truthy_int ?_;have e:(i != 0)=cW (eqB i 0):=by rw[gO,<- zE];rfl
  rw[e];exact hq s.toks (aLO _)
 |str l=>refine hv.str_el λt hl=>aLJ λaA=>?_;obtain rfl:=aLP h;refine aA (PySem.P.truthy_str (by rw[bI];exact ZG hl) ?_);rw[LX];exact hq _ (OA)
 |ref n=>
  refine hv.ref_el λa d h1=>e12 (eC h) λl h2 h3=>e24 (I.list h2 h1) λxs m e1 v1 h4 Z=>?_;have l1:s.heap.IsList a xs.toArray:=dT.isList ⟨m,e1⟩;have hl:=v1.length;refine wpAny_truthy_list l1 (by simp;exact OI h4 hl) ?_;obtain rfl:=aLP h3;have e2:(!xs.toArray.isEmpty)=cW (gH l):=by
   refine rwl (gO ..) ?_;cases v1 with
   |nil=>rfl
   |cons a b=>rfl
  rw[e2];exact hq _ (by first|exact aLO _|exact OA)
 |_=>exact bV h
section
variable {S:Sit}{ok:bX S.k}{f g h:Loc->St->RE V}{a b c:Expr}{pos:Pos}
theorem aIt{op:BO}(ga:aH S f a)(gb:aH S g b):aH S (λl s=>(f l s).bind λa s=>(g l s).bind λb s=>gA op a b s) (.BinOp a (sX op) b pos):=by intro l G σ s I F H hn;dsimp only at hn|-;exact wpAny_BinOp ((ga I F H).step hn (λZ Z p=>p) λv aG bB x aO e1 n1 L1 I1 F1 V1=>rwl (e1 ..) ((gb I1 F1 (H.mono L1)).step n1 (λZ Z p=>p.le L1) λw aJ eS y bL e2 n2 L2 I2 F2 V2=>rwl (e2 ..) ((MF I2 F2 (V1.mono L2) V2).post n2 (L1.trans L2))))
theorem aIs{op:CO}(ok:bX S.k)(hu:S.A.units+5<cLine)(ga:aH S f a)(gb:aH S g b)(hm:behindInMarks (cOf op) b=false):
 aH S (λl s=>(f l s).bind λa s=>(g l s).bind λb s=>okB s (cT s op a b)) (.Compare a [cOf op] [b] pos):=by
 intro l G σ s I F H hn;dsimp only at hn|-;refine wpAny_Compare1 ((ga I F H).step hn (λZ Z p=>p) λv aG bB x aO e1 n1 L1 I1 F1 V1=>?_) hm;refine rwl (e1 ..) ?_;refine(gb I1 F1 (H.mono L1)).step n1 (λZ Z p=>p.le L1) λw aJ eS y bL e2 n2 L2 I2 F2 V2=>?_;refine rwl (e2 ..) ?_;exact(JP ok hu I2 F2 (V1.mono L2) V2).post n2 (L1.trans L2)
theorem tE{x:Option Bool}{k:V->St->RE α}(hn:(okB σ x).bind k≠.stuck):∃b,x=some b/\(okB σ x).bind k=k (.bool b) σ:=by
 cases x with
 |none=>exact absurd rfl hn
 |some b=>cases b<;>exact⟨_,rfl,rfl⟩
theorem aI9(b:Bool)(σ:St):tr (.bool b) σ=.ok b σ:=rfl
theorem RE.bind_assoc{α β γ:Type}(r:RE α)(f:α->St->RE β)(g:β->St->RE γ):(r.bind f).bind g=r.bind λa s=>(f a s).bind g:=by cases r<;>rfl
theorem dJ.stepB{l G σ}{v w:V}{x y:Value}{op:CO}{k:V->St->RE α}(ok:bX S.k)(hu:S.A.units+5<cLine)(I:Inv S.k S.P G σ s)(F:FR S l G s.heap)(hv:VR G v x)(hw:VR G w y)(hn:(okB σ (cT σ op v w)).bind k≠.stuck)(hQ:∀t s',(okB σ (cT σ op v w)).bind k=k (.bool t) σ->Inv S.k S.P G σ s'->FR S l G s'.heap->Q (.bool t) s'):wpAny S.k.M S.A (compareOp (cOf op) x y) Q E s:=by
 refine e12 (tE hn) λt e e'=>?_;exact mA ok hu I F hv hw e λs' I' F'=>hQ t s' e' I' F'
theorem aCJ{o1 o2:CO}(ok:bX S.k)(hu:S.A.units+5<cLine)(ga:aH S f a)(gb:aH S g b)(gc:aH S h c)(hm:lastMarks [cOf o1,cOf o2] [b,c]=false):
 aH S (λl s=>(f l s).bind λa s=>(g l s).bind λb s=>yD (cT s o1 a b) ((h l s).bind λc s=>okB s (cT s o2 b c)) s) (.Compare a [cOf o1,cOf o2] [b,c] pos):=by
 intro l G σ s I F H hn;dsimp only at hn|-;refine Compare_chain ((ga I F H).step hn (λZ Z p=>p) λv aG bB x aO e1 n1 L1 I1 F1 V1=>?_) hm;refine rwl (e1 ..) ?_;refine chain_link ((gb I1 F1 (H.mono L1)).step n1 (λZ Z p=>p.le L1) λw aJ eS y bL e2 n2 L2 I2 F2 V2=>?_);refine rwl (e2 ..) ?_;refine e12 (dO n2) λt ht et=>?_;have et':yD (cT aJ o1 v w) ((h l aJ).bind λc s=>okB s (cT s o2 w c)) aJ=(Bool.rec (.ok (.bool false) aJ) ((h l aJ).bind λc s=>okB s (cT s o2 w c)) t:RE V):=et;replace n2:=(et')▸n2;refine rwl (et' ..) ?_;refine mA ok hu I2 F2 (V1.mono L2) V2 ht λbU I3 F3=>wpAny_truthy_bool ?_;have L12:=L1.trans L2;cases t with
 |false=>exact PG.le L12 (dJ.done I3 F3 (.bool _))
 |true=>exact chain_last ((gc I3 F3 (H.mono L12)).step n2 (λZ Z p=>p.le L12) λz HC aC9 zz kJ e4 n4 L4 I4 F4 V4=>rwl (e4 ..) ((JP ok hu I4 F4 (V2.mono L4) V4).post n4 (L12.trans L4)))
theorem aIn(ga:aH S f a):aH S (λl s=>(f l s).bind λa s=>BR s a) (.UnaryOp .USub a pos):=by
 intro l G σ s I F H hn;dsimp only at hn|-;refine UnaryOp_ ((ga I F H).step hn (λZ Z p=>p) λv aG bB x aO e1 n1 L1 I1 F1 V1=>rwl (e1 ..) ?_);cases v with
 |int i=>dsimp only[BR,vI]at n1|-;exact V1.int_el λt=>neg_int (rwl (cF ..) (PG.le L1 (fY I1 F1)))
 |_=>exact absurd rfl n1
theorem aIp(ga:aH S f a):aH S (λl s=>(f l s).bind λa s=>aCD s a) (.UnaryOp .Invert a pos):=by
 intro l G σ s I F H hn;dsimp only at hn|-;refine UnaryOp_ ((ga I F H).step hn (λZ Z p=>p) λv aG bB x aO e1 n1 L1 I1 F1 V1=>rwl (e1 ..) ?_);cases v with
 |int i=>dsimp only[aCD,vI]at n1|-;exact V1.int_el λt=>invert_int (rwl (cF ..) (PG.le L1 (fY I1 F1)))
 |_=>exact absurd rfl n1
theorem YO{v:V}(h:tr v σ≠.stuck):∃b,gL σ v=some b/\tr v σ=.ok b σ:=mR h
theorem aIl(ga:aH S f a):aH S (λl s=>((f l s).bind tr).bind aCn) (.UnaryOp .Not a pos):=by
 intro l G σ s I F H hn;dsimp only at hn|-;rw[RE.bind_assoc]at hn;refine rwl (RE.bind_assoc ..) (UnaryOp_ ((ga I F H).step hn (λZ Z p=>p) λv aG bB x aO e1 n1 L1 I1 F1 V1=>rwl (e1 ..) ?_));have n2:tr v aG≠.stuck:=λq=>n1 (by rw[q];rfl);refine e12 (YO n2) λb hb eb=>rwl (eb ..) (not_of (jJ I1 hb V1 λt ht=>?_));cases b with
 |false=>exact PG.le L1 (dJ.done I1.toks F1 (.bool _))
 |true=>exact PG.le L1 (dJ.done I1.toks F1 (.bool _))
theorem UZ(ga:aH S f a)(he:isTrue a S.env (eval a S.env)=(do let v <- eval a S.env;standAt a.pos;holding [v] (truthy v))):dC S f a:=by intro l G σ s I F H hn;dsimp only at hn|-;exact isTrue_plain ((ga I F H).step hn (λZ Z p=>p) λv aG bB x aO e1 n1 L1 I1 F1 V1=>rwl (e1 ..) (e12 (YO n1) λb hb eb=>rwl (eb ..) (jJ I1 hb V1 λt ht=>⟨b,aG,bB,rfl,L1,I1.toks,F1,rfl⟩))) he
theorem aDr(ga:dC S f a):dC S (λl s=>((f l s).bind tr).bind aCn) (.UnaryOp .Not a pos):=by
 intro l G σ s I F H hn;dsimp only at hn|-;rw[RE.bind_assoc]at hn;refine rwl (RE.bind_assoc ..) (isTrue_not ((ga I F H).step hn (λZ Z p=>p) λv aG bB x aO e1 n1 L1 I1 F1 V1=>rwl (e1 ..) ?_));subst V1;cases v with
 |false=>exact⟨true,aG,bB,rfl,L1,I1,F1,rfl⟩
 |true=>exact⟨false,aG,bB,rfl,L1,I1,F1,rfl⟩
theorem aDt{op:CO}(ok:bX S.k)(hu:S.A.units+5<cLine)(ga:aH S f a)(gb:aH S g b)(hm:behindInMarks (cOf op) b=false):
 dC S (λl s=>(f l s).bind λa s=>(g l s).bind λb s=>okB s (cT s op a b)) (.Compare a [cOf op] [b] pos):=by
 intro l G σ s I F H hn;dsimp only at hn|-;rw[RE.bind_assoc]at hn;refine rwl (RE.bind_assoc ..) ?_;refine wpAny_isTrue_Compare1 ((ga I F H).step hn (λZ Z p=>p) λv aG bB x aO e1 n1 L1 I1 F1 V1=>?_) hm;refine rwl (e1 ..) ?_;rw[RE.bind_assoc]at n1;refine rwl (RE.bind_assoc ..) ?_;refine(gb I1 F1 (H.mono L1)).step n1 (λZ Z p=>p.le L1) λw aJ eS y bL e2 n2 L2 I2 F2 V2=>?_;refine rwl (e2 ..) ?_;refine e12 (tE n2) λt et e3=>?_;refine mA ok hu I2 F2 (V1.mono L2) V2 et λs' I' F'=>wpAny_truthy_bool ?_;refine rwl (e3 ..) ?_;exact fH t aJ eS rfl (L1.trans L2) I' F' rfl
theorem aBV{o1 o2:CO}(ok:bX S.k)(hu:S.A.units+5<cLine)(ga:aH S f a)(gb:aH S g b)(gc:aH S h c)(hm:lastMarks [cOf o1,cOf o2] [b,c]=false):
 dC S (λl s=>(f l s).bind λa s=>(g l s).bind λb s=>yD (cT s o1 a b) ((h l s).bind λc s=>okB s (cT s o2 b c)) s) (.Compare a [cOf o1,cOf o2] [b,c] pos):=by
 intro l G σ s I F H hn;dsimp only at hn|-;rw[RE.bind_assoc]at hn;refine rwl (RE.bind_assoc ..) ?_;refine isTrue_chain ((ga I F H).step hn (λZ Z p=>p) λv aG bB x aO e1 n1 L1 I1 F1 V1=>?_) hm;refine rwl (e1 ..) ?_;rw[RE.bind_assoc]at n1;refine rwl (RE.bind_assoc ..) ?_;refine test_link ((gb I1 F1 (H.mono L1)).step n1 (λZ Z p=>p.le L1) λw aJ eS y bL e2 n2 L2 I2 F2 V2=>?_);refine rwl (e2 ..) ?_;have n3:yD (cT aJ o1 v w) ((h l aJ).bind λc s=>okB s (cT s o2 w c)) aJ≠.stuck:=λq=>n2 (by rw[q];rfl);refine e12 (dO n3) λt ht et=>?_;have et':yD (cT aJ o1 v w) ((h l aJ).bind λc s=>okB s (cT s o2 w c)) aJ=(Bool.rec (.ok (.bool false) aJ) ((h l aJ).bind λc s=>okB s (cT s o2 w c)) t:RE V):=et;replace n2:=(et')▸n2;refine rwl (et' ..) ?_;refine mA ok hu I2 F2 (V1.mono L2) V2 ht λbU I3 F3=>wpAny_truthy_bool ?_;have L12:=L1.trans L2;cases t with
 |false=>exact⟨false,aJ,eS,rfl,L12,I3,F3,rfl⟩
 |true=>have n4:((h l aJ).bind λc s=>okB s (cT s o2 w c)).bind tr≠.stuck:=n2;refine(?_:wpAny S.k.M S.A _ (PG EqR S l G (((h l aJ).bind λc s=>okB s (cT s o2 w c)).bind tr)) (PX S l G (((h l aJ).bind λc s=>okB s (cT s o2 w c)).bind tr)) bU);rw[RE.bind_assoc]at n4;exact rwl (RE.bind_assoc ..) (test_last ((gc I3 F3 (H.mono L12)).step n4 (λZ Z p=>p.le L12) λz HC aC9 zz kJ e4 n5 L4 I4 F4 V4=>rwl (e4 ..) (e12 (tE n5) λt et e3=>mA ok hu I4 F4 (V2.mono L4) V4 et λs' I' F'=>wpAny_truthy_bool (rwl (e3 ..) (fH t HC aC9 rfl (L12.trans L4) I' F' rfl)))))
theorem aDy(b:Bool)(x y:α):sel b x y=if b=true then x else y:=by cases b<;>rfl
theorem aIq(gt:dC S f a)(ga:aH S g b)(gb:aH S h c):aH S (λl s=>((f l s).bind tr).bind λx s=>sel x (g l s) (h l s)) (.IfExp a b c pos):=by
 intro l G σ s I F H hn;dsimp only at hn|-;refine IfExp_ ((gt I F H).step hn (λZ Z p=>p) λv aG bB x aO e1 n1 L1 I1 F1 V1=>rwl (e1 ..) ?_);subst V1;cases v with
 |false=>exact(gb I1 F1 (H.mono L1)).post n1 L1
 |true=>exact(ga I1 F1 (H.mono L1)).post n1 L1
theorem aDs(gt:dC S f a)(ga:dC S g b)(gb:dC S h c):dC S (λl s=>((f l s).bind tr).bind λx s=>sel x (g l s) (h l s)) (.IfExp a b c pos):=by
 intro l G σ s I F H hn;dsimp only at hn|-;rw[RE.bind_assoc]at hn;refine rwl (RE.bind_assoc ..) (isTrue_IfExp ((gt I F H).step hn (λZ Z p=>p) λv aG bB x aO e1 n1 L1 I1 F1 V1=>rwl (e1 ..) ?_));subst V1;cases v with
 |false=>exact(gb I1 F1 (H.mono L1)).post n1 L1
 |true=>exact(ga I1 F1 (H.mono L1)).post n1 L1
theorem aIX(ih:Ev)(l:Loc)(e:CE)(s:St):mD ih l [e] s=ih.e e l s:=rfl
theorem mB(ih:Ev)(l:Loc)(e e':CE)(r:List CE)(s:St):mD ih l (e::e'::r) s=(ih.e e l s).bind (DV (mD ih l (e'::r))):=rfl
theorem aJa(ih:Ev)(l:Loc)(e:CE)(s:St):orE ih l [e] s=ih.e e l s:=rfl
theorem nQ(ih:Ev)(l:Loc)(e e':CE)(r:List CE)(s:St):orE ih l (e::e'::r) s=(ih.e e l s).bind (orK (orE ih l (e'::r))):=rfl
theorem cU.ind1{α β:Type}{R:α->β->Prop}{M:List α->List β->Prop}(h1:∀{a b},R a b->M [a] [b])(h2:∀{a a' l b b' r},R a b->M (a'::l) (b'::r)->M (a::a'::l) (b::b'::r)){l r}(h:cU R l r)(hne:l≠[]):M l r:=by
 induction h with
 |nil=>exact absurd rfl hne
 |cons a r ih=>
  cases r with
  |nil=>exact h1 a
  |cons x y=>exact h2 a (ih λe=>by cases e)
theorem aIu{ih:Ev}(h:cU (λe c=>aH S (ih.e c) e) es cs)(hne:es≠[]):aH S (λl s=>mD ih l cs s) (.BoolOp .And es pos):=by
 refine h.ind1 (M:=λes cs=>aH S (λl s=>mD ih l cs s) (.BoolOp .And es pos)) (λge=>λZ Z Z Z I F H hn=>BoolOp_one ((ge I F H) hn)) (λ{e e' es c c' cs} ge ih'=>?_) hne;intro l G σ s I F H hn;dsimp only at hn|-;rw[mB]at hn;refine rwl (mB ..) (BoolOp_and ((ge I F H).step hn (λZ Z p=>p) λv aG bB x aO e1 n1 L1 I1 F1 V1=>rwl (e1 ..) (e12 (dO n1) λb hb eb=>?_)));have eb':DV (mD ih l (c'::cs)) v aG=(Bool.rec (.ok v aG) (mD ih l (c'::cs) aG) b:RE V):=eb;replace n1:=(eb')▸n1;refine rwl (eb' ..) (jJ I1 hb V1 λt ht=>?_);cases b with
 |false=>exact PG.le L1 (dJ.done I1.toks F1 V1)
 |true=>exact(ih' (s:={ aO with toks:=t }) I1.toks F1 (H.mono L1)).post n1 L1
theorem aK7{ih:Ev}(h:cU (λe c=>aH S (ih.e c) e) es cs)(hne:es≠[]):aH S (λl s=>orE ih l cs s) (.BoolOp .Or es pos):=by
 refine h.ind1 (M:=λes cs=>aH S (λl s=>orE ih l cs s) (.BoolOp .Or es pos)) (λge=>λZ Z Z Z I F H hn=>BoolOp_one ((ge I F H) hn)) (λ{e e' es c c' cs} ge ih'=>?_) hne;intro l G σ s I F H hn;dsimp only at hn|-;rw[nQ]at hn;refine rwl (nQ ..) (BoolOp_or ((ge I F H).step hn (λZ Z p=>p) λv aG bB x aO e1 n1 L1 I1 F1 V1=>rwl (e1 ..) (e12 (dO n1) λb hb eb=>?_)));have eb':orK (orE ih l (c'::cs)) v aG=(Bool.rec (orE ih l (c'::cs) aG) (.ok v aG) b:RE V):=eb;replace n1:=(eb')▸n1;refine rwl (eb' ..) (jJ I1 hb V1 λt ht=>?_);cases b with
 |false=>exact(ih' (s:={ aO with toks:=t }) I1.toks F1 (H.mono L1)).post n1 L1
 |true=>exact PG.le L1 (dJ.done I1.toks F1 V1)
theorem EH{r:RE V}{b:Bool}(h:r.bind tr=.ok b σ):∃v,r=.ok v σ/\gL σ v=some b:=by
 cases r with
 |ok v σ'=>
  have h':tr v σ'=.ok b σ:=h;unfold tr at h';cases q:gL σ' v with
  |none=>rw[q]at h';cases h'
  |some b'=>rw[q]at h';have:(RE.ok b' σ':RE Bool)=.ok b σ:=h';injection this with h1 h2;subst h1 h2;exact⟨v,rfl,q⟩
 |exc n σ'=>cases h
 |stuck=>cases h
theorem dC.stepK{γ:Type}{l G}{r:RE V}{t:Sem Bool}{k:V->St->RE γ}{g:Bool->V->St->RE γ}{Q:Bool->Shared->Prop}(h:aLh S l G (r.bind tr) t s)(hk:∀v σ',k v σ'=eZ (gL σ' v) λb=>g b v σ')(hn:r.bind k≠.stuck)(hE:∀x s',PX S l G (r.bind k) x s'->E x s')(hQ:∀b v σ' G' s',r.bind k=g b v σ'->gL σ' v=some b->G.Le G'->Inv S.k S.P G' σ' s'->FR S l G' s'.heap->Q b s'):wpAny S.k.M S.A t Q E s:=by
 have ns:r.bind tr≠.stuck:=λq=>hn (by
  cases r with
  |ok v σ'=>
   have q':tr v σ'=.stuck:=q;refine(?_:k v σ'=_);unfold tr at q';refine rwl (hk ..) ?_;cases z:gL σ' v with
   |none=>rfl
   |some b=>rw[z]at q';cases q'
  |exc n σ'=>cases q
  |stuck=>rfl)
 refine wpAny_mono (h ns) (λx s' p=>?_) λx s' p=>hE x s' ?_;.refine e35 p λb σ' G' h1 h2 h3 h4 h5=>?_;refine e12 (EH h1) λv h6 h7=>?_;have h5':b=x:=h5;refine rwr h5' ?_;refine hQ b v σ' G' s' ?_ h7 h2 h3 h4;rw[h6];show k v σ'=_;rw[hk,h7];rfl
 .refine e52 p λn σ' G' a d h1 h2=>?_;refine aBn n σ' G' a d ?_ h2;cases r with
  |ok v σ''=>
   have h1':tr v σ''=.exc n σ':=h1;unfold tr at h1';cases z:gL σ'' v with
   |none=>rw[z]at h1';cases h1'
   |some b=>rw[z]at h1';cases h1'
  |exc m σ''=>cases h1;rfl
  |stuck=>cases h1
theorem aDu{ih:Ev}(h:cU (λe c=>dC S (ih.e c) e) es cs)(hne:es≠[])(whole):wF EqR S (λl s=>(mD ih l cs s).bind tr) (isTrue (.BoolOp .And es pos) S.env whole):=by
 refine h.ind1 (M:=λes cs=>wF EqR S (λl s=>(mD ih l cs s).bind tr) (isTrue (.BoolOp .And es pos) S.env whole)) (λ{e c} ge=>?_) (λ{e e' es c c' cs} ge ih'=>?_) hne
 .intro l G σ s I F H hn;refine isTrue_and (wpAny_mono (ge I F H hn) (λb s' p=>?_) λZ Z p=>p);cases b with
  |false=>exact p
  |true=>exact isTrue_and_nil p
 .intro l G σ s I F H hn;dsimp only at hn|-;rw[mB,RE.bind_assoc]at hn;refine rwl (mB ..) (rwl (RE.bind_assoc ..) (isTrue_and (dC.stepK (g:=λb v s=>(Bool.rec (.ok v s) (mD ih l (c'::cs) s) b:RE V).bind tr) (ge I F H) (λv σ'=>?_) hn (λZ Z p=>p) λb v aG bB aO e1 hb L1 I1 F1=>?_)));.show(DV (mD ih l (c'::cs)) v σ').bind tr=_;unfold DV;cases gL σ' v<;>rfl
  .refine rwl (e1 ..) ?_;cases b with
   |false=>refine fH false aG bB (?_:tr v aG=_) L1 I1 F1 rfl;unfold tr;rw[hb];rfl
   |true=>refine(ih' I1 F1 (H.mono L1)).post (λq=>hn (by rw[e1];exact q)) L1
theorem aJq{ih:Ev}(h:cU (λe c=>dC S (ih.e c) e) es cs)(hne:es≠[])(whole):wF EqR S (λl s=>(orE ih l cs s).bind tr) (isTrue (.BoolOp .Or es pos) S.env whole):=by
 refine h.ind1 (M:=λes cs=>wF EqR S (λl s=>(orE ih l cs s).bind tr) (isTrue (.BoolOp .Or es pos) S.env whole)) (λ{e c} ge=>?_) (λ{e e' es c c' cs} ge ih'=>?_) hne
 .intro l G σ s I F H hn;refine isTrue_or (wpAny_mono (ge I F H hn) (λb s' p=>?_) λZ Z p=>p);cases b with
  |false=>exact isTrue_or_nil p
  |true=>exact p
 .intro l G σ s I F H hn;dsimp only at hn|-;rw[nQ,RE.bind_assoc]at hn;refine rwl (nQ ..) (rwl (RE.bind_assoc ..) (isTrue_or (dC.stepK (g:=λb v s=>(Bool.rec (orE ih l (c'::cs) s) (.ok v s) b:RE V).bind tr) (ge I F H) (λv σ'=>?_) hn (λZ Z p=>p) λb v aG bB aO e1 hb L1 I1 F1=>?_)));.show(orK (orE ih l (c'::cs)) v σ').bind tr=_;unfold orK;cases gL σ' v<;>rfl
  .refine rwl (e1 ..) ?_;cases b with
   |true=>refine fH true aG bB (?_:tr v aG=_) L1 I1 F1 rfl;unfold tr;rw[hb];rfl
   |false=>refine(ih' I1 F1 (H.mono L1)).post (λq=>hn (by rw[e1];exact q)) L1
end
inductive CoR:V->Const->Prop where
 |none:CoR .none .none
 |bool (b):CoR (.bool b) (.bool b)
 |int (i):CoR (.int i) (.int i)
 |str (l:List Nat):l.length<=1000000->CoR (.str l) (.str ⟨l.toArray⟩)
theorem iD{b:Bool}{x:RE α}(h:sel b x .stuck≠.stuck):b=true/\sel b x .stuck=x:=⟨(bA h).1,(bA h).2.1⟩
section
variable {S:Sit}{f g h:Loc->St->RE V}{a b c:Expr}{pos:Pos}
theorem XH{v:V}{co:Const}{k:Nat}(r:CoR v co):aH S (λZ s=>.ok v s) (.Constant co k pos):=by
 intro l G σ s I F H hn;cases r with
 |none=>exact wpAny_Constant_none (dJ.done I F .none)
 |bool b=>exact wpAny_Constant_bool (dJ.done I F (.bool b))
 |int i=>exact wpAny_Constant_int (dJ.done I.toks F (.int i _))
 |str l h=>exact wpAny_Constant_str (dJ.done I.toks F (.str l _ h))
theorem YA{s:St}{i:Nat}(h:lB l s i≠.stuck):∃v,nth l i=some (some v)/\lB l s i=.ok v s:=by unfold lB at h|-;refine e12 (dO h) λx h1 e=>?_;replace h:=(e)▸h;refine rwl (e ..) (e12 (dO h) λv aE e'=>?_);subst aE;exact⟨v,h1,e'⟩
theorem tI{x:Str}{i:Nat}(ok:S.OK)(hx:(x,i)∈S.C.names){kd:NameKind}(hk:S.C.kinds.lookup x=some kd)(hkd:kd=.local\/kd=.cell):wF VR S (λl s=>lB l s i) (loadName S.env x):=by
 intro l G σ s I F H hn;dsimp only at hn|-;refine e12 (YA hn) λv h1 e=>rwl (e ..) ?_;have hk':S.env.kindOf x=some kd:=by show S.env.scope.names.lookup x=_;rw[ok.kinds];exact hk
 refine aLJ λaA=>?_;rcases hkd with rfl|rfl;.exact e12 F.loc λm hm hm'=>e12 (hm' x i v hx hk h1) λy h2 h3=>aA (wpAny_loadName_local ok.fn hk' hm h2 (dJ.done I F h3))
 .exact e23 (F.cell x i v hx hk h1) λcc y h2 h3 h4=>aA (wpAny_loadName_cell ok.fn hk' h2 h3 (dJ.done I F h4))
theorem SE{x:Str}{i:Nat}(ok:S.OK)(hx:(x,i)∈S.C.names){kd:NameKind}(hk:S.C.kinds.lookup x=some kd)(hkd:kd=.local\/kd=.cell)(hd:(x == ("__debug__" : Str))=false):aH S (λl s=>lB l s i) (.Name x pos):=
 λZ Z Z Z I F H hn=>wpAny_Name (tI ok hx hk hkd I F H hn) hd
theorem Inv.ns{k P G σ}(I:Inv k P G σ s){a:Addr}{m}(h:k.B.Ns a m):s.heap.Ns a m:=h.at' λo e=>I.base _ _ e
theorem gT(ok:S.OK)(K:bX S.k){x:Str}{y:Value}{G σ}(I:Inv S.k S.P G σ s)(hx:S.C.kinds.lookup x=some .globalImplicit)(hy:S.k.mg x=some y)(hd:(x == ("__debug__" : Str))=false)(h:Q y s):wpAny S.k.M S.A (eval (.Name x pos) S.env) Q E s:=by
 refine Name_function_global ok.fn (by show S.env.scope.names.lookup x=_;rw[ok.kinds];exact hx) ?_ hd;exact loadGlobal_global (mg:=S.k.mg) (by rw[ok.globals];exact I.ns K.nsG) hy h
theorem jP(ok:S.OK)(K:bX S.k){x:Str}{y:Value}{G σ}(I:Inv S.k S.P G σ s)(hx:S.C.kinds.lookup x=some .globalImplicit)(hg:S.k.mg x=none)(hy:S.k.mb x=some y)(hd:(x == ("__debug__" : Str))=false)(h:Q y s):wpAny S.k.M S.A (eval (.Name x pos) S.env) Q E s:=by
 refine Name_function_global ok.fn (by show S.env.scope.names.lookup x=_;rw[ok.kinds];exact hx) ?_ hd;exact loadGlobal_builtin (mg:=S.k.mg) (mb:=S.k.mb) (by rw[ok.globals];exact I.ns K.nsG) hg (by rw[ok.builtins];exact I.ns K.nsB) hy h
theorem aIr{x:Str}{i:Nat}(ok:S.OK)(K:bX S.k)(hi:i<S.k.T.ng)(hx:S.k.T.gn i=x)(hk:S.C.kinds.lookup x=some .globalImplicit)(hd:(x == ("__debug__" : Str))=false):
 aH S (λZ s=>.ok (S.k.gt i) s) (.Name x pos):=by
 intro l G σ s I F H hn;refine e12 (K.glob i hi) λy h1 h2=>?_;exact gT ok K I hk (hx▸h1) hd (dJ.done I F (h2.mono I.g0))
def bJ(e:Expr):Bool:=cW (Nat.beq e.ctorIdx 22)
theorem cD(h:bJ e=true)(rest:List Expr)(env:Env):starEach (e::rest) env=(false,eval e env)::starEach rest env:=by cases e<;>first|rfl|cases h
theorem aJb(ih:Ev)(l:Loc)(s:St):evs ih l [] s=.ok [] s:=rfl
theorem oS(ih:Ev)(l:Loc)(e:CE)(es:List CE)(s:St):evs ih l (e::es) s=(ih.e e l s).bind λv s=>(evs ih l es s).bind λvs s=>.ok (v::vs) s:=rfl
theorem mI{ih:Ev}(h9:cU (λe c=>bJ e=true/\aH S (ih.e c) e) es cs):wF VRs S (λl s=>evs ih l cs s) (spliced (backTo pos (starEach es S.env))):=by
 induction h9 with
 |nil=>exactλZ Z Z Z I F H hn=>wpAny_items_nil ⟨[],_,_,rfl,.refl _,I,F,.nil⟩
 |@cons e c es cs g9 gr ih'=>refine e02 g9 λhp ge=>?_;intro l G σ s I F H hn;dsimp only at hn|-;rw[oS]at hn;exact rwl (oS ..) (wpAny_items_cons ((ge I F H).step hn (λZ Z p=>p) λv aG bB x aO e1 n1 L1 I1 F1 V1=>rwl (e1 ..) ((ih' I1 F1 (H.mono L1)).step n1 (λZ Z p=>p.le L1) λvs aJ eS xs bL e2 n2 L2 I2 F2 V2=>rwl (e2 ..) (fH _ _ _ rfl (L1.trans L2) I2 F2 (.cons (V1.mono L2) V2)))) (cD hp _ _))
theorem aIo{ih:Ev}(ge:cU (λe c=>bJ e=true/\aH S (ih.e c) e) es cs):aH S (λl s=>(evs ih l cs s).bind λvs s=>cZ s vs) (.List es pos):=by intro l G σ s I F H hn;dsimp only at hn|-;refine wpAny_List ((mI ge I F H).step hn (λZ Z p=>p) λvs aG bB xs aO e1 n1 L1 I1 F1 V1=>rwl (e1 ..) ⟨?_,PG.le L1 (iW (k:=aO.toks) I1 F1 V1 n1)⟩);have:=(bA n1).1;have:=aC.mp this;rw[aD,V1.length]at this;have h9:lim=100000:=rfl;rw[aLW];exact aFS this h9
theorem aIj{ih:Ev}{k:Nat}(ge:cU (λe c=>bJ e=true/\aH S (ih.e c) e) es cs):
 aH S (λl s=>(evs ih l cs s).bind λvs s=>sel (Nat.blt (bC vs) lim) (.ok (.tup vs) s) .stuck) (.Tuple es k pos):=by
 intro l G σ s I F H hn;dsimp only at hn|-;refine wpAny_Tuple ((mI ge I F H).step hn (λZ Z p=>p) λvs aG bB xs aO e1 n1 L1 I1 F1 V1=>?_);refine rwl (e1 ..) ?_;obtain⟨h1,h2⟩:=(iD n1);refine rwl (h2 ..) ?_;have:=aC.mp h1;rw[aD]at this;have h9:lim=100000:=rfl;have hl:=V1.length;exact⟨by rw[aLW];exact aHx this h9 hl,PG.le L1 (NB (k:=aO.toks) I1 F1 V1 (aFT this h9))⟩
theorem XG(K:bX S.k):aH S (λZ s=>s.new (.dict []) λn s=>.ok (.ref n) s) (.Dict [] [] pos):=by
 intro l G σ s I F H hn;dsimp only at hn|-;rw[St.new_eq]at hn;refine rwl (St.new_eq ..) (e02 (iD hn) λh3 e2=>rwl (e2 ..) (rwl (eval_Dict_empty ..) (wpAny_bind (wpAny_standAt (wpAny_newObj_type ?_)))))
 let ad:Addr×Option Addr:=(s.heap.objs.size,none)
 have hk:∀b ob,s.heap.get? b=some ob->(s.heap.push { cls:=.type "dict",data:=.dict #[] }).get? b=some ob:=λb ob e=>aLS _ e;have hf:∀b∈bD ad,s.heap.get? b=none:=λb hb=>by
  have:b=s.heap.objs.size:=by simpa [bD,ad] using hb
  rw[this];exact lR _
 have hd:=Heap.DictOf.new (knd:=strKind S.k.prog S.k.w) s.heap;obtain⟨ep,hd'⟩:=hd.dictAt;refine fH (.ref σ.n) _ (G.push ad) rfl (G.le_push ad) ?_ (F.newObj hk hf) ?_
 .refine I.newObj (aC.mp h3) rfl rfl hk hf (λb hb=>?_) (λa d e=>by have q:=congrArg Prod.snd e;cases q) ?_
  .have:b=s.heap.objs.size:=by simpa [bD,ad] using hb
   exact⟨_,this▸aL4 _ rfl⟩
  .exact⟨rfl,[],ep,hd',.nil,by simp,(aLT (modules_low (K.nolimit.keeps I.base))).symm⟩
 .exact .ref (a:=ad.1) (d:=ad.2) (by rw[I.size];exact G.push_get ad)
def mU(e:Expr):Bool:=cW (Nat.beq e.ctorIdx 16)
theorem nB(h:mU e=true)(attr:Str)(env:Env)(t:Sem Value):attributeBase e attr env t=t:=by cases e<;>first|rfl|cases h
theorem uR{env:Env}{w:World}{value:Expr}{attr:Str}(hb:mU value=true)(h:wpAny (model prog w) A (eval value env) (λo aO=>wpAny (model prog w) A (getAttr o attr true) Q E aO) E s):wpAny (model prog w) A (eval (.Attribute value attr pos) env) Q E s:=
 Attribute_any_ h (by rw[arm_eval_Attribute,nB hb])
theorem SB{G v x}(h:VR G v x):handedIn x=true:=by cases h<;>rfl
theorem WI{h:Heap}{d:Addr}{m:Str->Option Value}{name:Str}{v:Value}(hm:h.Ns d m)(hv:m name=some v):∃o,h.get? d=some o/\lookIn name o=some (some v):=by
 refine e34 hm λo es ep h1 h2 h3 h4=>⟨o,h1,?_⟩;unfold lookIn;refine rwl (h2 ..) ?_;have:=h4 name;replace this:=(hv)▸this;unfold nsFind findBy at this;refine aLJ λaA=>?_;cases q:es.toList.find? (·.key.isStr name) with
 |none=>
  refine aA ?_;exfalso;have e:es.find? (·.key.isStr name)=none:=by rw[<- q];simp
  rw[e]at this;cases this
 |some e=>
  have e':es.find? (·.key.isStr name)=some e:=by rw[<- q];simp
  replace this:=(e')▸this;have:some e.val=some v:=this;obtain rfl:=aLP this;refine aA ?_;simp[q]
theorem CN{k:Kit}{P:List (Addr×Obj)}{G σ}{o v:V}{x:Value}{a:Nat}(K:bX k)(I:Inv k P G σ s)(ho:VR G o x)(h:tQ σ o a=some v)(ha:a<k.T.na)(hQ:∀y,VR G v y->Q y { s with toks:=s.toks+1 }):wpAny k.M A (getAttr x (k.T.an a) true) Q E s:=by
 unfold tQ at h;revert ho;refine mE h (λn h ho=>?_) λh ho=>bV h;refine ho.ref_el λad d h1=>?_;have go:∀c fs ox d',c<k.T.nc->s.heap.get? ad=some ox->ox.cls=.ref (k.T.ca c)->notCls ox=true->ox.dict=some d'->(∃m,NsN s.heap d' m fs.length/\dG k.T G m fs/\fs.length<=100000)->fF fs a=some v->
  ∃od y,InstAt s.heap ad ox (k.T.ca c) (some od)/\VR G v y/\findObj k.K (k.T.ca c) (some od) (k.T.an a)=some (.value y):=by
  intro c fs ox d' hc' h2 h3 h4 h5 ⟨m,h6,h7,_⟩ h8;refine aLJ λaA=>?_;obtain⟨_,y,h9,h10⟩:=h7 a v h8;refine e12 (WI h6.ns h9) λod h11 h12=>?_;refine e02 (K.clsAll c hc') λc2 Z=>?_;obtain⟨gW,_⟩:=K.clsAttr c a hc' ha;refine e12 gW λattr c3 c4=>?_;exact aA (bM od y (⟨h2,h3,h4,by rw[h5];exact h11⟩) h10 (findObj_own c2 c3 c4 h12))
 refine aLJ λaA=>?_;cases hg:σ.h.get n with
 |none=>rw[hg]at h;exact bV h
 |some o=>
  rw[hg]at h;cases o with
  |inst c fs=>refine aA (aLJ λaA=>?_);obtain⟨ad',h2,hc',ox,d',m,h3,h4,h5,h6,h7,h8,h9,h10⟩:=I.objs n _ hg;rw[h1]at h2;cases h2;exact e23 (go c fs ox d' hc'.2 h3 h4 (by unfold notCls;rw[h7]) h6 ⟨m,h8,h9,h10⟩ h) λod y II vy ff=>aA (get_value (K.frag.keeps I.base) II (K.clsGet c hc'.1 hc'.2) ff (SB vy) (hQ y vy))
  |exc c fs=>
   refine aA (aLJ λaA=>?_);obtain⟨ad',h2,hc',ox,vs,h3,h4,h5,h6,h7,h8,h9⟩:=I.objs n _ hg;rw[h1]at h2;cases h2;refine aA (aLJ λaA=>?_);cases d with
   |none=>have:fs=[]:=h9;subst this;cases h
   |some d=>exact e23 (go c fs ox d (aLL hc' K.nxc) h3 h4 (by unfold notCls;rw[h6]) h5 h9 h) λod y II vy ff=>e03 (K.excGet c hc') λg1 g2 g3=>aA (FX (K.frag.keeps I.base) II g1 g2 g3 ff (SB vy) (hQ y vy))
  |_=>exact bV h
end
theorem fA:∀(l:List α) (i:Nat),nth l i=l[i]?:=by
 intro mN;induction mN with
 |nil=>intro i;simp;rfl
 |cons x l aQ=>
  intro rE;cases rE with
  |zero=>exact rfl
  |succ i=>show nth l i=_;rw[aQ i];simp
theorem tZ:∀(l:List V) (i:Nat),DA l i=l.drop i:=by
 intro uT;induction uT with
 |nil=>intro i;simp;rfl
 |cons x l aQ=>
  intro EF;cases EF with
  |zero=>exact rfl
  |succ i=>show DA l i=_;rw[aQ i];simp
theorem sK:∀(l:List V) (i:Nat),AG l i=l.take i:=by
 intro EE;induction EE with
 |nil=>intro i;simp;rfl
 |cons x l aQ=>
  intro MZ;cases MZ with
  |zero=>exact rfl
  |succ i=>show x::AG l i=_;rw[aQ i];simp
theorem HR:∀(l:List α) (i:Nat) (x:α),bZ l i x=l.set i x:=by
 intro v79;induction v79 with
 |nil=>intro i;intro x;simp;rfl
 |cons y l aQ=>
  intro v89;cases v89 with
  |zero=>intro x;exact rfl
  |succ i=>intro x;show y::bZ l i x=_;rw[aQ i x];simp
theorem VRs.drop:∀{l xs}(n:Nat),VRs G l xs->VRs G (l.drop n) (xs.drop n)
 |_,_,n,.nil=>by simp;exact .nil
 |_,_,0,h=>h
 |_,_,n+1,.cons a r=>by simpa using VRs.drop n r
theorem VRs.take:∀{l xs}(n:Nat),VRs G l xs->VRs G (l.take n) (xs.take n)
 |_,_,n,.nil=>by simp;exact .nil
 |_,_,0,h=>by simp;exact .nil
 |_,_,n+1,.cons a r=>by simpa using VRs.cons a (VRs.take n r)
theorem eI{i:Int}(h:pM i=some n):i=(n:Int):=by
 cases i with
 |ofNat m=>cases h;rfl
 |negSucc m=>cases h
theorem CA{k:Kit}{P:List (Addr×Obj)}{G σ}{o i v:V}{x y:Value}(I:Inv k P G σ s)(ho:VR G o x)(hi:VR G i y)(h:item σ o i=some v)(hQ:∀z t,s.toks<=t->VR G v z->Q z { s with toks:=t }):∃(T id:String),s.TypeIs x T/\typeLookup (.type T) "__getitem__" = pure (some (.builtin id))/\wpAny k.M A (getItem x y) Q E s:=by
 unfold item at h;revert ho;refine wJ h (λl h ho=>?_) λh ho=>?_;.revert hi;refine jW h (λi h hi=>?_) λh hi=>bV h;refine aLJ λaA=>?_;refine e24 ho.tup_inv λa xs bF h1 h2 h3=>?_;subst bF;refine e11 hi.int_inv λt aE=>?_;subst aE;refine e12 (bR h) λn e1 e2=>?_;obtain rfl:=eI e1;refine e12 (h2.get e2) λz e3 e4=>?_;have ht:IsTup s.heap a xs.toArray:=I.tups _ h1;have hlt:n<xs.length:=(List.getElem?_eq_some_iff.mp e3).1;have hl:=h2.length;exact aA (bM ("tuple") _ ht.typeIs slot_tuple_getitem.lookup (getItem_tuple (j:=n) ht (aE8) (OS h3 hlt hl) (by rw[seqIndex_of (BB) (by simp;exact aFY hlt)];rfl) (by simpa using e3) (hQ z s.toks (aLO _) e4)))
 revert ho;refine YM h (λl h ho=>?_) λh ho=>?_;.revert hi;refine jW h (λi h hi=>?_) λh hi=>bV h;refine aLJ λaA=>?_;refine e24 ho.frz_inv λa xs bF h1 v1 hle=>?_;subst bF;refine e11 hi.int_inv λu aE=>?_;subst aE;refine e12 (bR h) λn e1 e2=>?_;obtain rfl:=eI e1;have l1:s.heap.IsList a xs.toArray:=(I.fz _ h1).at λo e=>I.base _ _ e;refine e12 (v1.get e2) λz e3 e4=>?_;have hlt:n<xs.length:=(List.getElem?_eq_some_iff.mp e3).1;have hl:=v1.length;exact aA (bM ("list") _ l1.typeIs slot_list_getitem.lookup (wpAny_getItem_list l1 (BB) (OS hle hlt hl) (by simpa using e3) (hQ z s.toks (aLO _) e4)))
 revert ho;refine qL h (λl h ho=>?_) λh ho=>?_
 .revert hi;refine jW h (λi h hi=>?_) λh hi=>bV h;refine aLJ λaA=>?_;obtain⟨t,aE,hl⟩:=ho.str_inv;subst aE;refine e11 hi.int_inv λu aE=>?_;subst aE;refine e12 (bR h) λn e1 e2=>?_;obtain rfl:=eI e1;refine e12 (bR e2) λc e3 e4=>?_;obtain rfl:=aLP e4;rw[fA]at e3;have hlt:n<l.length:=(List.getElem?_eq_some_iff.mp e3).1;refine aA ?_;refine bM ("str") _ (typeIs_str _ _ _) PySem.F.slot_str_getitem.lookup (PySem.P.getItem_str (c:=c) ?_ ?_ (hQ _ _ (aLV _) (.str [c] _ (by simp))));.rw[Bool.or_eq_false_iff];exact⟨decide_eq_false (NZ),decide_eq_false (aFv hl hlt)⟩
  .refine rwl (seqIndex_of (BB) (by rw[bI];exact aF3 hlt) ..) ?_;refine(?_:(⟨l.toArray⟩:Str).cps[n]? = some c);simpa using e3
 revert ho;refine mE h (λn h ho=>?_) λh ho=>bV h;revert hi;refine jW h (λi h hi=>?_) λh hi=>?_;.refine aLJ λaA=>?_;refine e22 ho.ref_inv λa d bF h1=>?_;subst bF;refine e11 hi.int_inv λu aE=>?_;subst aE;refine e12 (bR h) λn e1 e2=>?_;obtain rfl:=eI e1;refine e12 (eC e2) λl h2 h3=>?_;refine e24 (I.list h2 h1) λxs m e5 v1 hle Z=>?_;have l1:s.heap.IsList a xs.toArray:=dT.isList ⟨m,e5⟩;refine e12 (v1.get h3) λz e3 e4=>?_;have hlt:n<xs.length:=(List.getElem?_eq_some_iff.mp e3).1;have hl:=v1.length;exact aA (bM ("list") _ l1.typeIs slot_list_getitem.lookup (wpAny_getItem_list l1 (BB) (OS hle hlt hl) (by simpa using e3) (hQ z s.toks (aLO _) e4)))
 revert hi;refine qL h (λz h hi=>?_) λh hi=>bV h;refine aLJ λaA=>?_;refine e22 ho.ref_inv λa d bF h1=>?_;subst bF;refine aA ?_;refine hi.str_el λu Z=>?_;refine aLJ λaA=>?_;refine e12 (sG h) λkvs h2 h3=>?_;obtain⟨_,es,ep,d1,kr,_⟩:=I.dict h2 h1;refine e12 ((zM (a:=z) kr).1 _ h3) λw h4 h5=>?_;exact aA (bM ("dict") _ d1.dictOf.typeIs slot_dict_getitem.lookup (wpAny_getItem_of (knd:=strKind k.prog k.w) (nN z u) d1.dictOf.mapOf h4 (hQ w _ (aLV _) h5)))
theorem HN{w:World}{value slice:Expr}{o i:Value}{T id:String}(hT:s.TypeIs o T)(hl:typeLookup (.type T) "__getitem__" = pure (some (.builtin id)))(h:wpAny (model prog w) A (getItem o i) Q E s)(hs:∀Q,wpAny (model prog w) A (getItem o i) Q E s->wpAny (model prog w) A (subscripted slice false o i) Q E s):wpAny (model prog w) A (subscriptTail value slice o i) Q E s:=by
 unfold subscriptTail;refine wpAny_bind ?_;refine rwl (getitemInPython_of_ne hT.not_modules ..) ?_;refine wpAny_bind (wpAny_specialOf hT hl ?_);have fin:wpAny (model prog w) A (subscripted slice false o i) (λr bU=>wpAny (model prog w) A (letTemporaryGo value o r >>= λZ=>pure r) Q E bU) E s:=
  hs _ (wpAny_mono h (λr bU XC=>wpAny_bind (wpAny_letTemporaryGo (wpAny_pure XC))) λZ Z x=>x)
 first
  |exact wpAny_pure (wpAny_bind fin)
  |exact wpAny_bind (wpAny_pure (wpAny_bind fin))
  |exact wpAny_bind fin
def iV(e:Expr):Bool:=cW (Nat.beq e.ctorIdx 26)
theorem nM{slice:Expr}(h:iV slice=true)(o i:Value):subscripted slice false o i=operate [o,i] (getItem o i):=by cases slice<;>first|rfl|cases h
section
variable {S:Sit}{f g h:Loc->St->RE V}{a b c:Expr}{pos:Pos}
theorem aIk(ga:aH S f a)(gb:aH S g b)(hb:iV b=true):aH S (λl s=>(f l s).bind λo s=>(g l s).bind λi s=>ofO s (item s o i)) (.Subscript a b pos):=by intro l G σ s I F H hn;dsimp only at hn|-;exact Subscript_ ((ga I F H).step hn (λZ Z p=>p) λv aG bB x aO e1 n1 L1 I1 F1 V1=>rwl (e1 ..) ((gb I1 F1 (H.mono L1)).step n1 (λZ Z p=>p.le L1) λw aJ eS y bL e2 n2 L2 I2 F2 V2=>rwl (e2 ..) (e12 (mR n2) λz h1 h2=>rwl (h2 ..) (e23 (CA (k:=S.k) (A:=S.A) (Q:=PQ S l G (.ok z aJ)) (E:=PX S l G (.ok z aJ:RE V)) I2 (V1.mono L2) V2 h1 λzz t ht hz=>PG.le (L1.trans L2) (dJ.done I2.toks F2 hz)) λT id h3 h4 h5=>HN h3 h4 h5 λQ hq=>by rw[nM hb];exact wpAny_operating hq))))
theorem aCL(K:bX S.k){i:Nat}(ga:aH S f a)(hi:i<S.k.T.na)(hb:mU a=true):aH S (λl s=>(f l s).bind λo s=>ofO s (tQ s o i)) (.Attribute a (S.k.T.an i) pos):=by intro l G σ s I F H hn;dsimp only at hn|-;exact uR hb ((ga I F H).step hn (λZ Z p=>p) λv aG bB x aO e1 n1 L1 I1 F1 V1=>rwl (e1 ..) (e12 (mR n1) λz h1 h2=>rwl (h2 ..) (CN K I1 V1 h1 hi λy hy=>PG.le L1 (dJ.done I1.toks F1 hy))))
theorem LY{o lo hi:V}(h:kN σ o lo hi≠.stuck):∃(i j:Nat) (l:List V),((∃n:Nat,o=.ref n/\σ.h.get n=some (.list l))\/o=.frz l)/\lo=.int i/\hi=.int j/\i<=j/\
 kN σ o lo hi=cZ σ ((l.drop i).take (j-i)):=by
 generalize hr:kN σ o lo hi=r at h|-;unfold kN at hr;refine mE hr (λk hr=>?_) λhr=>?_;.refine jW hr (λa hr=>?_) λhr=>absurd hr.symm h;refine jW hr (λb hr=>?_) λhr=>absurd hr.symm h;subst hr;refine e12 (cO h) λl h1 e1=>?_;rw[e1]at h;refine rwl (e1 ..) ?_;refine e12 (dO h) λi h2 e2=>?_;rw[e2]at h;refine rwl (e2 ..) ?_;refine e12 (dO h) λj h3 e3=>?_;rw[e3]at h;refine rwl (e3 ..) ?_;obtain⟨h4,e4⟩:=(iD h);refine rwl (e4 ..) ?_;refine rwl (eI h2) ?_;refine rwl (eI h3) ?_;refine fH i j l (.inl ⟨_,rfl,h1⟩) rfl rfl (aLK h4) ?_;rw[sK,tZ];rfl
 .refine YM hr (λx hr=>?_) λhr=>absurd hr.symm h;refine jW hr (λa hr=>?_) λhr=>absurd hr.symm h;refine jW hr (λb hr=>?_) λhr=>absurd hr.symm h;subst hr;refine e12 (dO h) λi h2 e2=>?_;rw[e2]at h;refine rwl (e2 ..) ?_;refine e12 (dO h) λj h3 e3=>?_;rw[e3]at h;refine rwl (e3 ..) ?_;obtain⟨h4,e4⟩:=(iD h);refine rwl (e4 ..) ?_;obtain rfl:=eI h2;obtain rfl:=eI h3;refine fH i j _ (.inr rfl) rfl rfl (aLK h4) ?_;rw[sK,tZ];rfl
theorem EO(items:Array Value)(a b:Nat):slicePick items (some (a:Int)) (some (b:Int)) none=slicePick items (some ((min a items.size:Nat):Int)) (some ((min b items.size:Nat):Int)) none:=by
 have e:sliceBounds (some (a:Int)) (some (b:Int)) none items.size=sliceBounds (some ((min a items.size:Nat):Int)) (some ((min b items.size:Nat):Int)) none items.size:=by
  dsimp only[sliceBounds];simp only[Option.getD_none,show(1:Int)>0 by decide,if_true];refine rwl (if_neg (HY) ..) (rwl (if_neg (HY) ..) (rwl (if_neg (HY) ..) (rwl (if_neg (HY) ..) (Prod.ext ?_ (Prod.ext ?_ rfl)))));.show max 0 (min (a:Int) _)=max 0 (min ((min a items.size:Nat):Int) _);omega
  .show max 0 (min (b:Int) _)=max 0 (min ((min b items.size:Nat):Int) _);omega
 unfold slicePick;exact rwl (e ..) rfl
theorem KG(xs:List Value)(a b:Nat)(h:a<=b):slicePick xs.toArray (some (a:Int)) (some (b:Int)) none=((xs.drop a).take (b-a)).toArray:=by
 refine rwl (EO ..) (rwl (slicePick_run _ _ _ (Nat.min_le_right _ _) (by omega) ..) ?_);congr 1;refine(?_:(xs.drop (min a xs.toArray.size)).take (min b xs.toArray.size-min a xs.toArray.size)=_);have hs:xs.toArray.size=xs.length:=by simp
 refine rwl (hs ..) ?_;rcases Nat.le_total a xs.length with q|q
 .refine rwl (Nat.min_eq_left q ..) ?_;rcases Nat.le_total b xs.length with z|z;.exact rwl (Nat.min_eq_left z ..) rfl
  .exact rwl (Nat.min_eq_right z ..) (rwl (List.take_of_length_le (by simp) ..) (rwl (List.take_of_length_le (by simp;exact aG7 z) ..) rfl))
 .rw[Nat.min_eq_right q,aL6 (aLO _),aL6 q];simp
theorem XF(ga:aH S f a)(gb:aH S g b)(gc:aH S h c){p:Pos}:aH S (λl s=>(f l s).bind λo s=>(g l s).bind λlo s=>(h l s).bind λhi s=>kN s o lo hi) (.Subscript a (.Slice (some b) (some c) none p) pos):=by
 intro l G σ s I F H hn;dsimp only at hn|-;refine Subscript_ ((ga I F H).step hn (λZ Z p=>p) λv aG bB x aO e1 n1 L1 I1 F1 V1=>rwl (e1 ..) ?_);refine wpAny_Slice (by
  refine rwl (evalPart_some ..) ?_;refine(gb I1 F1 (H.mono L1)).step n1 (λZ Z p=>p.le L1) λw aJ eS y bL e2 n2 L2 I2 F2 V2=>?_;refine rwl (e2 ..) (rwl (evalPart_some ..) ?_);have L12:=L1.trans L2;refine(gc I2 F2 (H.mono L12)).step n2 (λZ Z p=>p.le L12) λu eB eV z bU e3 n3 L3 I3 F3 V3=>?_;refine rwl (e3 ..) (rwl (evalPart_none ..) ?_);refine wpAny_pure ?_;have L123:=L12.trans L3;refine e35 (LY n3) λi j ls h1 RZ mW h2 e4=>?_;subst RZ mW;replace n3:=(e4)▸n3;refine rwl (e4 ..) ?_;have V13:=V1.mono (L2.trans L3);refine aLJ λaA=>?_;refine e11 ((V2.mono L3).int_inv) λt aE=>?_;subst aE;refine e11 V3.int_inv λt' aE=>?_;subst aE;have hk:∀b ob,bU.heap.get? b=some ob->(bU.heap.push { cls:=.type "slice",data:=.fields #[.int i t,.int j t',.none] }).get? b=some ob:=λb ob e=>aLS _ e;have I4:Inv S.k S.P eV eB { bU with heap:=bU.heap.push { cls:=.type "slice",data:=.fields #[.int i t,.int j t',.none] } }:=I3.keeps rfl rfl hk;have F4:=F3.keeps hk;obtain⟨ad,xs,_,rfl,l1,v1,hle⟩:∃ad xs,∃_:True,x=.ref ad/\(bU.heap.push { cls:=.type "slice",data:=.fields #[.int i t,.int j t',.none] }).IsList ad xs.toArray/\VRs eV ls xs/\ls.length<=1000000:=by
   refine aLJ λaA=>?_;rcases h1 with⟨n,rfl,h1⟩|rfl;.exact aA (V13.ref_el λad d h4=>aLJ λaA=>e24 (I4.list h1 h4) λxs m h5 v1 hle Z=>aA (aBp ad xs trivial rfl (dT.isList ⟨m,h5⟩) v1 hle))
   .exact aA (V13.frz_el λad xs h4 v1 hle=>aBp ad xs trivial rfl ((I4.fz _ h4).at λo e=>I4.base _ _ e) v1 hle)
  have hl:=v1.length;refine aA ?_;refine HN l1.typeIs slot_list_getitem.lookup ?_ λQ hq=>wpAny_operating hq;refine wpAny_getItem_list_slice l1 (Heap.IsSliceOf.new _ _ _ _) (.int _ _) (.int _ _) .none (by intro q;cases q) ?_ (by simp[aLW];exact OH hle hl);have e5:slicePick xs.toArray (some (i:Int)) (some (j:Int)) none=((xs.drop i).take (j-i)).toArray:=KG xs i j h2;refine rwl (e5 ..) ?_;exact PG.le L123 (iW (k:=bU.toks) I4 F4 ((v1.drop i).take (j-i)) n3))
end
inductive FlR(G:Gh):Fl->Flow->Prop where
 |next:FlR G .next .next
 |cont:FlR G .cont .cont
 |ret {v x}:VR G v x->FlR G (.ret v) (.ret x)
theorem FlR.mono{G G' f g}(h:G.Le G')(x:FlR G f g):FlR G' f g:=by
 cases x with
 |next=>exact .next
 |cont=>exact .cont
 |ret v=>exact .ret (v.mono h)
def PS(S:Sit)(G:Gh)(r:RS)(f:Flow)(s:Shared):Prop:=∃fl l σ G',r=.ok fl l σ/\G.Le G'/\Inv S.k S.P G' σ s/\FR S l G' s.heap/\FlR G' fl f
def PSX(S:Sit)(G:Gh)(r:RS)(x:Value)(s:Shared):Prop:=∃(n:Nat) (l:Loc) (σ:St) (G':Gh) (a:Addr) (d:Option Addr),r=.exc n l σ/\G.Le G'/\Inv S.k S.P G' σ s/\FR S l G' s.heap/\
 x=.ref a/\G'.φ[n]? = some (a,d)/\n∈G'.excs/\Fly S.k S.L a s.heap
theorem PS.le{S G G' r f s}(h:G.Le G')(p:PS S G' r f s):PS S G r f s:=e43 (p) λa b c eS h1 h2 r=>⟨a,b,c,eS,h1,h.trans h2,r⟩
theorem PSX.le{S G G' r x s}(h:G.Le G')(p:PSX S G' r x s):PSX S G r x s:=let ⟨a,b,c,eS,e,d,h1,h2,r⟩:=p;⟨a,b,c,eS,e,d,h1,h.trans h2,r⟩
def MM(S:Sit)(G:Gh)(r:RS)(t:Sem Flow)(s:Shared):Prop:=r≠.stuck->wpAny S.k.M S.A t (PS S G r) (PSX S G r) s
def bT(S:Sit)(f:Loc->St->RS)(t:Sem Flow):Prop:=∀ ⦃l G σ s⦄,Inv S.k S.P G σ s->FR S l G s.heap->dL S.A G->MM S G (f l σ) t s
theorem MM.post{S G G' r t s}(h:MM S G' r t s)(hn:r≠.stuck)(hG:G.Le G'):wpAny S.k.M S.A t (PS S G r) (PSX S G r) s:=
 wpAny_mono (h hn) (λZ Z p=>p.le hG) λZ Z p=>p.le hG
theorem aBu(l:Loc)(a:α)(s:St)(f:α->St->RS):(RE.ok a s).bs l f=f a s:=rfl
theorem PX.bs{S l G}{r:RE α}{f:α->St->RS}{x s}(p:PX S l G r x s):PSX S G (r.bs l f) x s:=by obtain⟨n,σ,G',a,d,h1,r⟩:=p;exact⟨n,l,σ,G',a,d,by rw[h1];rfl,r⟩
theorem lI.stepS{α β:Type}{R:Gh->α->β->Prop}{S l G}{r:RE α}{t:Sem β}{f:α->St->RS}{Q:β->Shared->Prop}(h:lI R S l G r t s)(hns:r.bs l f≠.stuck)(hE:∀x s',PSX S G (r.bs l f) x s'->E x s')(k:∀v σ' G' x s',r.bs l f=f v σ'->f v σ'≠.stuck->G.Le G'->Inv S.k S.P G' σ' s'->FR S l G' s'.heap->R G' v x->Q x s'):wpAny S.k.M S.A t Q E s:=by
 refine wpAny_mono (h λq=>hns (by rw[q];rfl)) (λx s' p=>?_) λx s' p=>hE x s' p.bs;refine e35 p λv σ G' h1 h2 h3 h4 h5=>?_;have e:r.bs l f=f v σ:=by rw[h1];rfl
 exact k v σ G' x s' e (by rw[<- e];exact hns) h2 h3 h4 h5
theorem jM{x:Option α}{k:α->RS}(h:eM x k≠.stuck):∃a,x=some a/\eM x k=k a:=by
 cases x with
 |none=>exact absurd rfl h
 |some a=>exact⟨a,rfl,rfl⟩
theorem oH{x:Option St}(h:fB l x≠.stuck):∃σ,x=some σ/\fB l x=.ok .next l σ:=by
 cases x with
 |none=>exact absurd rfl h
 |some a=>exact⟨a,rfl,rfl⟩
theorem dU{S l G σ}(I:Inv S.k S.P G σ s)(F:FR S l G s.heap):PS S G (.ok .next l σ) .next s:=⟨_,_,_,G,rfl,.refl G,I,F,.next⟩
theorem Lo.loose{k P G}{h:Heap}{a:Addr}(x:Lo k P G a)(hk:∀o,h.get? a=some o->(∀xs n,o.data≠.seq xs n)/\∀vs,o.data≠.fields vs):uQ k P G h a:=
 ⟨x.1,x.2.1,x.2.2,λo ho=>⟨.inr (hk o ho).1,.inr (hk o ho).2⟩⟩
theorem iE{l:List α}{i j:Nat}{x y:α}(h:nth (bZ l i x) j=some y):(j=i/\y=x)\/(j≠i/\nth l j=some y):=by
 rw[fA,HR]at h;refine rwl (fA ..) ?_;by_cases q:j=i
 .subst q;replace h:=(List.getElem?_set)▸h;simp only[if_true]at h;split at h
  .cases h;exact .inl ⟨rfl,rfl⟩
  .cases h
 .rw[List.getElem?_set,if_neg (aMd q)]at h;exact .inr ⟨q,h⟩
theorem pL{α β:Type}{l:List (α×β)}(h:(l.map (·.1)).Nodup){x:α}{i j:β}(h1:(x,i)∈l)(h2:(x,j)∈l):i=j:=by
 induction l with
 |nil=>cases h1
 |cons p l ih=>
  rw[List.map_cons,List.nodup_cons]at h;rcases List.mem_cons.mp h1 with e1|m1<;>rcases List.mem_cons.mp h2 with e2|m2;.subst e1;cases e2;rfl
  .subst e1;exact absurd (List.mem_map.mpr ⟨_,m2,rfl⟩) h.1
  .subst e2;exact absurd (List.mem_map.mpr ⟨_,m1,rfl⟩) h.1
  .exact ih h.2 m1 m2
theorem gS{α β:Type}{l:List (α×β)}(h:(l.map (·.2)).Nodup){x y:α}{i:β}(h1:(x,i)∈l)(h2:(y,i)∈l):x=y:=by
 induction l with
 |nil=>cases h1
 |cons p l ih=>
  rw[List.map_cons,List.nodup_cons]at h;rcases List.mem_cons.mp h1 with e1|m1<;>rcases List.mem_cons.mp h2 with e2|m2;.subst e1;cases e2;rfl
  .subst e1;exact absurd (List.mem_map.mpr ⟨_,m2,rfl⟩) h.1
  .subst e2;exact absurd (List.mem_map.mpr ⟨_,m1,rfl⟩) h.1
  .exact ih h.2 m1 m2
theorem wL{l G σ}{x:Str}{i:Nat}{v:V}{y:Value}{Q:Unit->Shared->Prop}(ok:S.OK)(hx:(x,i)∈S.C.names){kd:NameKind}(hk:S.C.kinds.lookup x=some kd)(hkd:kd=.local\/(kd=.cell/\S.C.comp=false))(I:Inv S.k S.P G σ s)(F:FR S l G s.heap)(hv:VR G v y)(hQ:∀s',Inv S.k S.P G σ s'->FR S (bZ l i (some v)) G s'.heap->Q () s'):wpAny S.k.M S.A (storeName S.env x y) Q E s:=by
 have hk':S.env.kindOf x=some kd:=by show S.env.scope.names.lookup x=_;rw[ok.kinds];exact hk
 rcases hkd with rfl|⟨rfl,hcm⟩
 .refine e12 F.loc λm hm hm'=>?_;have hp:(S.env.scope.kind == .class||(S.env.scope.kind == .module&&S.env.locals != S.env.globals))=false:=by rw[ok.fn];rfl
  refine wpAny_storeName_local hk' hm (λh' hn' hsb=>hQ _ ?_ ?_) hp;.refine I.loose (a:=S.env.locals) (F.lo.loose λo ho=>?_) rfl rfl λb o hb e=>(hsb.2 b hb).trans e;refine aLJ λaA=>?_;refine e33 hm λo' es ep ho' hd Z=>?_;rw[ho]at ho';cases ho';exact aA ⟨λxs n q=>(by rw[hd]at q;cases q),λvs q=>(by rw[hd]at q;cases q)⟩
  .have cellSame:∀c w,s.heap.IsCell c w->h'.IsCell c w:=λc w ⟨o,ho,hd⟩=>by refine⟨o,(hsb.2 c λe=>e33 hm λo' es ep ho' hd' Z=>?_).trans ho,hd⟩;rw[<- e,ho]at ho';cases ho';rw[hd]at hd';cases hd'
   refine⟨⟨_,hn',λz j w h1 h2 h3=>?_⟩,λz j w h1 h2 h3=>?_,F.lo,λhcm z hz=>?_,F.cellInj⟩
   .by_cases e:z=x
    .subst e;obtain rfl:=pL ok.ndup.1 hx h1;rcases iE h3 with⟨_,e2⟩|⟨q,_⟩
     .cases e2;exact⟨y,by simp,hv⟩
     .exact absurd rfl q
    .have hij:j≠i:=λq=>e (gS ok.ndup.2 h1 (q▸hx));refine aLJ λaA=>?_;rcases iE h3 with⟨q,_⟩|⟨_,h4⟩;.exact absurd q hij
     .refine e12 (hm' z j w h1 h2 h4) λu h5 h6=>?_;exact aA ⟨u,by simp only[if_neg e];exact h5,h6⟩
   .have e:z≠x:=λe=>by rw[e,hk]at h2;cases h2
    have hij:j≠i:=λq=>e (gS ok.ndup.2 h1 (q▸hx));refine aLJ λaA=>?_;rcases iE h3 with⟨q,_⟩|⟨_,h4⟩;.exact absurd q hij
    .refine e23 (F.cell z j w h1 h2 h4) λc u h5 h6 h7=>?_;exact aA (bM c u h5 (cellSame _ _ h6) h7)
   .refine e23 (F.cellLo hcm z hz) λc w h4 h5 h6=>?_;exact bM c w h4 (cellSame _ _ h5) h6
 .refine e23 (F.cellLo hcm x hk) λc w hc hw hlo=>?_;refine wpAny_storeName_cell ok.fn hk' hc hw λh' hn' hsb=>hQ _ ?_ ?_;.refine I.loose (a:=c) (hlo.loose λo ho=>?_) rfl rfl λb o hb e=>(hsb.2 b hb).trans e;refine aLJ λaA=>?_;refine e12 hw λo' ho' hd=>?_;rw[ho]at ho';cases ho';exact aA ⟨λxs n q=>(by rw[hd]at q;cases q),λvs q=>(by rw[hd]at q;cases q)⟩
  .refine e12 F.loc λm hm hm'=>?_;have hlc:S.env.locals≠c:=λe=>by refine e33 hm λo' es ep ho' hd' Z=>e12 hw λo ho hd=>?_;rw[e,ho]at ho';cases ho';rw[hd]at hd';cases hd'
   refine⟨⟨m,hm.sameBut hsb hlc,λz j w h1 h2 h3=>?_⟩,λz j w h1 h2 h3=>?_,F.lo,λZ z hz=>?_,F.cellInj⟩
   .have e:z≠x:=λe=>by rw[e,hk]at h2;cases h2
    have hij:j≠i:=λq=>e (gS ok.ndup.2 h1 (q▸hx));rcases iE h3 with⟨q,_⟩|⟨_,h4⟩;.exact absurd q hij
    .exact hm' z j w h1 h2 h4
   .by_cases e:z=x
    .subst e;obtain rfl:=pL ok.ndup.1 hx h1;rcases iE h3 with⟨_,e2⟩|⟨q,_⟩
     .cases e2;exact⟨c,y,hc,hn',hv⟩
     .exact absurd rfl q
    .have hij:j≠i:=λq=>e (gS ok.ndup.2 h1 (q▸hx));rcases iE h3 with⟨q,_⟩|⟨_,h4⟩;.exact absurd q hij
     .refine e23 (F.cell z j w h1 h2 h4) λc' u h5 h6 h7=>?_;have hcc:c'≠c:=λq=>e (F.cellInj hcm z x c h2 hk (q▸h5) hc);refine e12 h6 λo ho hd=>?_;exact bM c' u h5 (⟨o,(hsb.2 c' hcc).trans ho,hd⟩) h7
   .by_cases e:z=x;.subst e;exact⟨c,_,hc,hn',hlo⟩
    .refine e23 (F.cellLo hcm z hz) λc' w' h4 h5 h6=>?_;have hcc:c'≠c:=λq=>e (F.cellInj hcm z x c hz hk (q▸h4) hc);refine e12 h5 λo ho hd=>?_;exact bM c' w' h4 (⟨o,(hsb.2 c' hcc).trans ho,hd⟩) h6
structure Wr(S:Sit)(x:Str)(i:Nat):Prop where
 mem:(x,i)∈S.C.names
 kind:S.C.kinds.lookup x=some .local\/(S.C.kinds.lookup x=some .cell/\S.C.comp=false)
theorem Wr.store{l G σ}{x:Str}{i:Nat}{v:V}{y:Value}{Q:Unit->Shared->Prop}(w:Wr S x i)(ok:S.OK)(I:Inv S.k S.P G σ s)(F:FR S l G s.heap)(hv:VR G v y)(hQ:∀s',Inv S.k S.P G σ s'->FR S (bZ l i (some v)) G s'.heap->Q () s'):wpAny S.k.M S.A (storeName S.env x y) Q E s:=by
 refine aLJ λaA=>?_;rcases w.kind with h|⟨h,hc⟩;.exact aA (wL ok w.mem h (.inl rfl) I F hv hQ)
 .exact aA (wL ok w.mem h (.inr ⟨rfl,hc⟩) I F hv hQ)
def gN(e:Expr):Bool:=sel (Nat.blt e.ctorIdx 8) true (Nat.blt 10 e.ctorIdx)
theorem nL(h:gN e=true)(t:Option Expr)(n:Nat)(env:Env):swapsWith e t n env=pure false:=by cases e<;>first|rfl|cases h
section
variable {S:Sit}{f g h:Loc->St->RE V}{a b c:Expr}{pos p':Pos}
theorem aDF{x:Str}{i:Nat}(ok:S.OK)(w:Wr S x i)(ga:aH S f a)(hc:gN a=true):
 bT S (λl s=>(f l s).bs l λv s=>eM (put l (.n i) v) λl=>.ok .next l s) (exec (.Assign [.Name x p'] a pos) S.env):=by
 intro l G σ s I F H hn;dsimp only at hn|-;refine wpAny_Assign_Name ((ga I F H).stepS hn (λZ Z p=>p) λv aG bB y aO e1 n1 L1 I1 F1 V1=>?_) (nL hc _ _ _);refine rwl (e1 ..) ?_;exact w.store ok I1 F1 V1 λs' I' F'=>PS.le L1 (dU I' F')
theorem aDE{x:Str}{i:Nat}{op:BO}(ok:S.OK)(w:Wr S x i)(hk:S.C.kinds.lookup x=some .local\/S.C.kinds.lookup x=some .cell)(ga:aH S f a):
 bT S (λl s=>(lB l s i).bs l λa s=>(f l s).bs l λb s=>(iG op a b s).bs l λv s=>.ok .next (bZ l i (some v)) s) (exec (.AugAssign (.Name x p') (sX op) a pos) S.env):=by
 intro l G σ s I F H hn;dsimp only at hn|-;have gl:wF VR S (λl s=>lB l s i) (loadName S.env x):=by
  rcases hk with q|q;.exact tI ok w.mem q (.inl rfl)
  .exact tI ok w.mem q (.inr rfl)
 refine wpAny_AugAssign_Name ((gl I F H).stepS hn (λZ Z p=>p) λv aG bB y aO e1 n1 L1 I1 F1 V1=>?_);refine rwl (e1 ..) ?_;refine(ga I1 F1 (H.mono L1)).stepS n1 (λZ Z p=>p.le L1) λu aJ eS z bL e2 n2 L2 I2 F2 V2=>?_;refine rwl (e2 ..) ?_;have L12:=L1.trans L2;refine(qI I2 F2 (V1.mono L2) V2).stepS n2 (λZ Z p=>p.le L12) λr eB eV zz bU e3 n3 L3 I3 F3 V3=>?_;refine rwl (e3 ..) ?_;exact w.store ok I3 F3 V3 λs' I' F'=>PS.le (L12.trans L3) (dU I' F')
theorem aDC(ga:aH S f a):bT S (λl s=>(f l s).bs l λv s=>.ok (.ret v) l s) (exec (.Return (some a) pos) S.env):=by intro l G σ s I F H hn;dsimp only at hn|-;exact wpAny_Return_some ((ga I F H).stepS hn (λZ Z p=>p) λv aG bB y aO e1 n1 L1 I1 F1 V1=>rwl (e1 ..) (tY _ _ _ bB rfl L1 I1 F1 (.ret V1)))
theorem aJv{fa fb:Loc->St->RS}{A B:List Stmt}(gt:dC S f a)(ga:bT S fa (execs A S.env))(gb:bT S fb (execs B S.env)):
 bT S (λl s=>((f l s).bind tr).bs l λx s=>sel x (fa l s) (fb l s)) (exec (.If a A B pos) S.env):=by
 intro l G σ s I F H hn;dsimp only at hn|-;refine wpAny_If ((gt I F H).stepS hn (λZ Z p=>p) λv aG bB y aO e1 n1 L1 I1 F1 V1=>?_);refine rwl (e1 ..) ?_;subst V1;cases v with
 |false=>exact(gb I1 F1 (H.mono L1)).post n1 L1
 |true=>exact(ga I1 F1 (H.mono L1)).post n1 L1
theorem aB4:bT S (λl s=>.ok .cont l s) (exec (.Continue pos) S.env):=λl G σ s I F H hn=>
 wpAny_Continue ⟨_,_,_,G,rfl,.refl G,I,F,.cont⟩
theorem aIV:bT S (λl s=>.ok .next l s) (execs [] S.env):=λl G σ s I F H hn=>wpAny_execs_nil (dU I F)
theorem aC5{st:Stmt}{rest:List Stmt}{fa fb:Loc->St->RS}(ga:bT S fa (exec st S.env))(gb:bT S fb (execs rest S.env)):bT S (λl s=>dY fb (fa l s)) (execs (st::rest) S.env):=by
 intro l G σ s I F H hn;dsimp only at hn|-;refine wpAny_execs_cons (wpAny_mono (ga I F H λq=>hn (by rw[q];rfl)) (λfl s' p=>?_) λx s' p=>?_)
 .refine e45 p λf' l' σ' G' h1 h2 h3 h4 h5=>?_;replace hn:=(h1)▸hn;refine rwl (h1 ..) ?_;cases h5 with
  |next=>exact(gb h3 h4 (H.mono h2)).post hn h2
  |cont=>exact⟨_,_,_,G',rfl,h2,h3,h4,.cont⟩
  |ret v=>exact⟨_,_,_,G',rfl,h2,h3,h4,.ret v⟩
 .refine e62 p λn l' σ' G' a d h1 r=>?_;rw[h1];exact⟨n,l',σ',G',a,d,rfl,r⟩
end
theorem rU{l G σ}{s s':Shared}{o o':O}{ad:Addr×Option Addr}{b:Addr}(I:Inv S.k S.P G σ s)(F:FR S l G s.heap)(hn:σ.h.get n=some o)(had:G.φ[n]? = some ad)(hb:b∈bD ad)(hs:Heap.SameBut b s.heap s'.heap)(hc:∃ob,s.heap.get? b=some ob/\∀v,ob.data≠.cell v)(he:∃ob,s'.heap.get? b=some ob)(hg:s'.gens=s.gens)(ho:s'.os=s.os)(ht:s.toks<=s'.toks)(hx:OR S.k.prog S.k.w S.k.T G n s'.heap ad o')(hxc:n∈G.excs->∃c fs,o'=.exc c fs):Inv S.k S.P G (bE σ n o') s'/\FR S l G s'.heap:=by
 have hlt:n<G.φ.length:=(List.getElem?_eq_some_iff.mp had).1;have hsz:=I.size;have hfew:=I.few;refine⟨I.setObj hn had (aAV hlt hsz hfew) hg ho (λb' ob hb' e=>(hs.2 b' λq=>hb' (q▸hb)).trans e) hx (λb' hb'=>?_) hxc ht,F.leaf (.refl G) (λb' ob hb' e=>(hs.2 b' λq=>hb' n ad had (q▸hb)).trans e) (λZ b' ob v e hd=>?_) λm ad' b' e hb'=>.inl ⟨ad',e,hb'⟩⟩
 .by_cases q:b'=b;.rw[q];exact he
  .obtain⟨_,_,ob,e⟩:=I.own n ad had b' hb';exact⟨ob,(hs.2 b' q).trans e⟩
 .by_cases q:b'=b;.subst q;refine e12 hc λob' e' h'=>?_;rw[e]at e';cases e';exact absurd hd (h' v)
  .exact(hs.2 b' q).trans e
theorem uV{w:World}{l:Addr}{m:Nat}{k:Int}{t:Tok}{v:Value}{Q:Unit->Shared->Prop}(hkn:k=(n:Int))(h0:0<=k)(hfit:k<2 ^ 63)(hl:s.heap.get? l=some (dZ xs m))(hn:n<xs.length)(hx:xs.length<=1000000)(hQ:∀h',h'.get? l=some (dZ (xs.set n v) m)->Heap.SameBut l s.heap h'->Q () { s with heap:=h' }):wpAny (model prog w) A (PySem.setItem (.ref l) (.int k t) v) Q E s:=by
 have hL:s.heap.IsList l xs.toArray:=⟨_,hl,rfl,m,rfl⟩;unfold PySem.setItem
 try with_reducible refine wpAny_holding ?_
 first|refine wpAny_bind (wpAny_pure ?_)|skip
 refine wpAny_bind (wpAny_sequenceKey hL.typeIs (by decide) ?_);refine wpAny_bind (wpAny_callSpecial?_slot (name:=Str.ofString "__setitem__") hL.typeIs slot_list_setitem
  (wpAny_call_entry slot_list_setitem hL.typeIs entry_list_setitem ?_ (args_list_setitem _ _ _)))
 refine(?_:wpAny _ _ (Builtin.List.listSubscript? (.int k t) >>= _) _ _ s);refine wpAny_bind (wpAny_listSubscript_int (fitsIndex_of h0 hfit) ?_);clear hfit;refine rwl hkn ?_;have hd:(dZ xs m).data=.seq xs.toArray m:=rfl;have hj:n<xs.toArray.size:=by simpa using hn
 have hx':xs.toArray[n]? = some xs.toArray[n]:=Array.getElem?_eq_getElem hj;refine wpAny_bind (wpAny_bind (wpAny_seqItemAt hl hd (wpAny_pure ?_)));refine rwl (hx' ..) ?_;have hfin:(s.heap.update l (Obj.mapSeq (·.setIfInBounds n v))).get? l=some (dZ (xs.set n v) m):=by refine rwl (Heap.get?_update_self _ hl rfl ..) ?_;simp[Obj.mapSeq,dZ]
 refine wpAny_bind (wpAny_setSeqItemAt hl hd ?_)
 first
  |exact wpAny_bind (wpAny_pure (wpAny_pure ⟨.none,rfl,wpAny_pure (hQ _ hfin (Heap.SameBut.update ..))⟩))
  |exact wpAny_pure ⟨.none,rfl,wpAny_pure (hQ _ hfin (Heap.SameBut.update ..))⟩
theorem yQ{w:World}{l:Addr}{m:Nat}{t:Tok}{v:Value}{Q:Unit->Shared->Prop}(hl:s.heap.get? l=some (dZ xs m))(hn:n<xs.length)(hx:xs.length<=1000000)(hQ:∀h',h'.get? l=some (dZ (xs.set n v) m)->Heap.SameBut l s.heap h'->Q () { s with heap:=h' }):wpAny (model prog w) A (PySem.setItem (.ref l) (.int (n:Int) t) v) Q E s:=
 uV rfl (BB) (aFR hn hx) hl hn hx hQ
theorem lZ(p:List Nat×V)(l)(a)(v:V):fG (p::l) a v=bif eqS p.1 a then (p.1,v)::l else p::fG l a v:=by refine(?_:(Bool.rec (p::fG l a v) ((p.1,v)::l) (eqS p.1 a):List _)=_);cases eqS p.1 a<;>rfl
theorem uB:∀(l:List (List Nat×V)) (a v),(fG l a v).length<=l.length+1:=by
 intro x9;induction x9 with
 |nil=>intro a v;show [(a,v)].length<=_;simp
 |cons p l aQ=>intro a v;refine rwl (lZ ..) ?_;have:=aQ a v;cases eqS p.1 a<;>simp<;>exact aFr this
theorem hZ.keys{prog w G l es}(h:hZ prog w G l es):es.map (·.1)=l.map λp=>bS p.1:=by
 induction h with
 |nil=>rfl
 |cons _ _ _ ih=>simp[ih]
theorem LA{es:List (Str×Value)}{k:Str}{x:Value}(h:k∉es.map (·.1)):es.map (λkv=>if kv.1=k then (kv.1,x) else kv)=es:=by
 induction es with
 |nil=>rfl
 |cons p es ih=>simp only[List.map_cons,List.mem_cons,not_or]at h;exact rwl (List.map_cons ..) (rwl (if_neg (aMd h.1) ..) (rwl (ih h.2 ..) rfl))
theorem hZ.put{prog w G}{a:List Nat}{v:V}{x:Value}(ha:a.length<=1000000)(hv:VR G v x){l es}(h9:hZ prog w G l es)(hn:(es.map (·.1)).Nodup):hZ prog w G (fG l a v) (stored es (bS a) x):=by
 induction h9 with
 |nil=>exact .cons ha hv .nil
 |@cons k v' l x' xs hk hx r ih=>
  rw[List.map_cons,List.nodup_cons]at hn;have ih:=ih hn.2;refine rwl (lZ ..) (rwl (bQ ..) ?_);dsimp only[stored]at ih|-;by_cases q:k=a
  .subst q;have e:((bS k,x')::xs).any (λkv=>decide (kv.1=bS k))=true:=by simp
   refine rwl (if_pos e ..) (rwl (decide_eq_true rfl ..) (rwl (List.map_cons ..) (rwl (if_pos rfl ..) ?_)));simp only[cond_true];exact rwl (LA hn.1 ..) (.cons hk hv r)
  .have q':¬bS k=bS a:=λe=>q (nO.mp e);refine rwl (decide_eq_false q ..) ?_;simp only[cond_false];by_cases z:xs.any (λkv=>decide (kv.1=bS a))=true
   .have e:((bS k,x')::xs).any (λkv=>decide (kv.1=bS a))=true:=by rw[List.any_cons,z,Bool.or_true]
    rw[if_pos z]at ih;exact rwl (if_pos e ..) (rwl (List.map_cons ..) (rwl (if_neg q' ..) (.cons hk hx ih)))
   .have e:¬((bS k,x')::xs).any (λkv=>decide (kv.1=bS a))=true:=by rw[List.any_cons,decide_eq_false q',Bool.false_or];exact z
    rw[if_neg z]at ih;exact rwl (if_neg e ..) (rwl (List.cons_append ..) (.cons hk hx ih))
theorem qO{l G σ σ'}{o i v:V}{x y z:Value}{Q:Unit->Shared->Prop}(I:Inv S.k S.P G σ s)(F:FR S l G s.heap)(ho:VR G o x)(hi:VR G i y)(hv:VR G v z)(h:setItem σ o i v=some σ')(hQ:∀s',Inv S.k S.P G σ' s'->FR S l G s'.heap->Q () s'):wpAny S.k.M S.A (PySem.setItem x y z) Q E s:=by
 unfold Internal.setItem at h;revert ho;refine mE h (λk h ho=>?_) λh ho=>bV h;revert hi;refine jW h (λi h hi=>?_) λh hi=>?_
 .refine e22 ho.ref_inv λa d bF h1=>?_;refine aLJ λaA=>?_;subst bF;refine e11 hi.int_inv λt aE=>?_;subst aE;refine e12 (bR h) λn e1 e2=>?_;obtain rfl:=eI e1;refine e12 (eC e2) λls h2 h3=>?_;obtain⟨h4,h5⟩:=(dN h3);obtain rfl:=aLP h5;refine e24 (I.list h2 h1) λxs m h6 h7 h8 mW=>?_;subst mW;have hlt:n<ls.length:=by have:=aC.mp h4;rw[aD]at this;exact this
  have hl:=h7.length;refine aA ?_;refine yQ h6 (aAW hlt hl) (aAj h8 hl) λh' hg hsb=>?_;obtain⟨I',F'⟩:=rU (s':={ s with heap:=h' }) (o':=.list (bZ ls n v)) I F h2 h1 (aLQ _) hsb ⟨_,h6,λv q=>(by cases q)⟩ ⟨_,hg⟩ rfl rfl (aLO _)
   ⟨rfl,_,⟨m,hg⟩,h7.set hv,by rw[HR,List.length_set];exact h8⟩ (λhx=>by obtain⟨c,fs,e⟩:=I.excs _ hx;rw[h2]at e;cases e)
  exact hQ _ I' F'
 .revert hi;refine qL h (λkey h hi=>?_) λh hi=>bV h;refine aLJ λaA=>?_;refine e22 ho.ref_inv λa d bF h1=>?_;subst bF;refine e12 hi.str_inv λu aE hkl=>?_;subst aE;refine e12 (sG h) λkvs h2 h3=>?_;refine e02 (dN h3) λh4 h5=>?_;obtain rfl:=aLP h5;obtain⟨rfl,es,ep,d1,kr,h8,hsys⟩:=I.dict h2 h1;have hlt:kvs.length<1000:=by have:=aC.mp h4;rw[aD]at this;exact this
  have hkeys:=kr.keys;have hlen:es.length=kvs.length:=by have:=congrArg List.length hkeys;simpa using this
  refine aA ?_;refine wpAny_setItem_pairs (knd:=strKind S.k.prog S.k.w) (nN key u) d1.dictOf (λh' hd' hsb=>?_) (by rw[aLW];exact aGh hlt hlen);obtain⟨ep',hd''⟩:=hd'.dictAt;have hnd:(es.map (·.1)).Nodup:=d1.nodup;have hob:∃ob,s.heap.get? a=some ob/\∀v,ob.data≠.cell v:=aLJ λaA=>e24 d1 λob es' e Z hdd Z=>aA ⟨ob,e,λv q=>(by rw[hdd]at q;cases q)⟩;have hob':∃ob,h'.get? a=some ob:=by obtain⟨ob,es',e,_⟩:=hd'';exact⟨ob,e⟩
  obtain⟨I',F'⟩:=rU (s':={ s with heap:=h',toks:=s.toks+1 }) (o':=.dict (fG kvs key v)) I F h2 h1 (aLQ _) hsb hob hob' rfl rfl (aLV _)
   ⟨rfl,_,ep',hd'',kr.put hkl hv hnd,by have:=uB kvs key v;exact aGg hlt this,hsys⟩ (λhx=>by obtain⟨c,fs,e⟩:=I.excs _ hx;rw[h2]at e;cases e)
  exact hQ _ I' F'
theorem xU(p:Nat×V)(l)(a)(v:V):iM (p::l) a v=bif Nat.beq p.1 a then (a,v)::l else p::iM l a v:=by refine(?_:(Bool.rec (p::iM l a v) ((a,v)::l) (Nat.beq p.1 a):List _)=_);cases Nat.beq p.1 a<;>rfl
theorem gV(p:Nat×V)(l)(a):fF (p::l) a=bif Nat.beq p.1 a then some p.2 else fF l a:=by refine(?_:(Bool.rec (fF l a) (some p.2) (Nat.beq p.1 a):Option V)=_);cases Nat.beq p.1 a<;>rfl
theorem xX(a b:Nat)(v:V):∀l,fF (iM l a v) b=if b=a then some v else fF l b:=by
 intro x9;induction x9 with
 |nil=>
  refine((rwl (gV ..) ?_):fF [(a,v)] b=_);by_cases q:b=a;.subst q;rw[Nat.beq_refl,if_pos rfl];rfl
  .have:Nat.beq a b=false:=by
    cases z:Nat.beq a b with
    |false=>rfl
    |true=>exact absurd (aLU z).symm q
   rw[if_neg q];simp only[this,cond_false]
 |cons p l aQ=>
  refine rwl (xU ..) ?_;cases z:Nat.beq p.1 a with
  |true=>
   have e:=aLU z;simp only[cond_true];refine rwl (gV ..) (rwl (gV ..) ?_);dsimp only;by_cases q:b=a;.subst q;rw[Nat.beq_refl,if_pos rfl];rfl
   .have:Nat.beq a b=false:=by
     cases z:Nat.beq a b with
     |false=>rfl
     |true=>exact absurd (aLU z).symm q
    rw[if_neg q,e,this];rfl
  |false=>
   simp only[cond_false];refine rwl (gV ..) (rwl (gV ..) (rwl (aQ ..) ?_));by_cases q:b=a;.subst q;rw[if_pos rfl,if_pos rfl,z];rfl
   .exact rwl (if_neg q ..) (rwl (if_neg q ..) rfl)
theorem tS(a:Nat)(v:V):∀l,(iM l a v).length=if (fF l a).isSome then l.length else l.length+1:=by
 intro x9;induction x9 with
 |nil=>exact rfl
 |cons p l aQ=>
  refine rwl (xU ..) (rwl (gV ..) ?_);cases z:Nat.beq p.1 a with
  |true=>simp
  |false=>simp only[cond_false];refine rwl (List.length_cons ..) (rwl (aQ ..) (rwl (List.length_cons ..) ?_));split<;>rfl
noncomputable def Gh.setD(G:Gh)(n:Nat)(a d:Addr):Gh:={ G with φ:=G.φ.set n (a,some d) }
theorem Gh.setD_get{n a d}(h:G.φ[n]? = some (a,none))(m:Nat):(G.setD n a d).φ[m]? = if m=n then some (a,some d) else G.φ[m]?:=by
 have hlt:n<G.φ.length:=(List.getElem?_eq_some_iff.mp h).1;rw[Gh.setD];dsimp only;refine rwl (List.getElem?_set ..) ?_;by_cases q:m=n;.exact rwl (if_pos q.symm ..) (rwl (if_pos q ..) (rwl (if_pos hlt ..) rfl))
 .exact rwl (if_neg (aMd q) ..) (rwl (if_neg q ..) rfl)
theorem Gh.le_setD{n a d}(h:G.φ[n]? = some (a,none)):G.Le (G.setD n a d):=
 ⟨λm a' d' e=>by
  refine rwl (Gh.setD_get h ..) ?_;by_cases q:m=n;.subst q;rw[h]at e;cases e;exact⟨some d,by rw[if_pos rfl]⟩
  .exact⟨d',by rw[if_neg q];exact e⟩,λZ h=>h,λZ h=>h,λZ h=>h,λZ h=>.inl h,λZ h=>h⟩
theorem aIh{l G σ}{s s':Shared}{o':O}{a d:Addr}{c fs}(I:Inv S.k S.P G σ s)(F:FR S l G s.heap)(hn:σ.h.get n=some (.exc c fs))(had:G.φ[n]? = some (a,none))(hd:s.heap.get? d=none)(hk:∀b o,b≠a->s.heap.get? b=some o->s'.heap.get? b=some o)(ha':∃ob,s'.heap.get? a=some ob)(hd':∃ob,s'.heap.get? d=some ob)(hg:s'.gens=s.gens)(ho:s'.os=s.os)(ht:s.toks<=s'.toks)(hx:OR S.k.prog S.k.w S.k.T (G.setD n a d) n s'.heap (a,some d) o')(hxc:∃c fs,o'=.exc c fs):Inv S.k S.P (G.setD n a d) (bE σ n o') s'/\FR S l (G.setD n a d) s'.heap:=by
 have hlt:n<G.φ.length:=(List.getElem?_eq_some_iff.mp had).1;have hsz:=I.size;have hfew:=I.few;refine e12 (I.objs n _ hn) λoZ FW hor=>?_;obtain rfl:oZ=(a,none):=aLP (FW.symm.trans had);have kd:=hor.kind;obtain⟨ba,pa,oa,hoa⟩:=I.own n _ had a (aLQ _);have get:=Gh.setD_get (d:=d) had;have nt:∀t xs,s.heap.IsTuple t xs->t≠a:=λt xs ⟨ob,e,hc,m,hdd⟩ hb=>by
  refine aLJ λaA=>?_;subst hb;rcases(kd t (aLQ _) ob e).1 with q|q;.exact aA (q hc)
  .exact aA (q _ _ hdd)
 have nr:∀r i j l u v w,IsRange s.heap r i j l u v w->r≠a:=λr i j l u v w e hb=>by
  subst hb;rcases(kd r (aLQ _) _ e).2 with q|q;.exact q rfl
  .exact q _ rfl
 have other:∀(m:Nat) ad',G.φ[m]? = some ad'->m≠n->∀b∈bD ad',b≠a/\b≠d:=λm ad' e hm b hb=>⟨λq=>hm (I.apart.two m n ad' _ b e had hb (by rw[q];exact aLQ _)),λq=>by
  obtain⟨_,_,ob,e2⟩:=I.own m ad' e b hb;rw[q,hd]at e2;cases e2⟩
 have had:d≠a:=λq=>by rw[q,hoa]at hd;cases hd
 have full':∀(m:Nat) ad',(G.setD n a d).φ[m]? = some ad'->∃om,(bE σ n o').h.get m=some om:=by
  intro m ad' e;rw[bE,Tr.get_upd _ _ _ _ _ (by omega)];by_cases q:m=n;.exact⟨o',by rw[if_pos q]⟩
  .rw[get,if_neg q]at e;rw[if_neg q];exact I.full m ad' e
 refine⟨⟨I.g0.trans (Gh.le_setD ‹_›),hg.trans I.gens,ho.trans I.os,aL1 I.tk ht,λb ob e=>hk _ _ (λq=>by rw[q,ba]at e;cases e) (I.base b ob e),λp hp=>?_,I.pinsB,I.pinsK,?_,I.few,λm om e=>?_,full',⟨λm a' d' e=>?_,λi j a1 a2 x e1 e2 m1 m2=>?_⟩,λm ad' e b hb=>?_,
  λt ht=>(I.tups t ht).at λo e=>hk _ _ (nt _ _ (I.tups t ht)) e,λt ht=>e31 (I.rngs t ht) λx y z r=>⟨x,y,z,hk _ _ (nr _ _ _ _ _ _ _ r) r⟩,λm hm=>?_,I.fz⟩,?_⟩
 .obtain⟨sl,e,q⟩:=I.pins p hp;exact⟨sl,hk _ _ (pa p hp) e,q⟩
 .show σ.n=(G.φ.set n (a,some d)).length;rw[List.length_set];exact hsz
 .rw[bE,Tr.get_upd _ _ _ _ _ (by omega)]at e;refine rwl (get ..) ?_;by_cases q:m=n;.rw[if_pos q]at e|-;cases e;subst q;exact⟨_,rfl,hx⟩
  .rw[if_neg q]at e;refine rwl (if_neg q ..) ?_;refine e12 (I.objs m om e) λad' h1 h2=>?_;exact⟨ad',h1,h2.at (Gh.le_setD ‹_›) λb hb ob z=>hk _ _ (other m ad' h1 q b hb).1 z⟩
 .rw[get]at e;by_cases q:m=n;.rw[if_pos q]at e;cases e;exact aMd had
  .rw[if_neg q]at e;exact I.apart.one m a' d' e
 .rw[get]at e1 e2;by_cases q:i=n<;>by_cases z:j=n;.exact rwl (q ..) (rwl (z ..) rfl)
  .rw[if_pos q]at e1;rw[if_neg z]at e2;obtain rfl:=aLP e1;have:=other j a2 e2 z x m2;rcases(by simpa [bD] using m1:x=a\/x=d) with w|w;.exact absurd w this.1
   .exact absurd w this.2
  .rw[if_neg q]at e1;rw[if_pos z]at e2;obtain rfl:=aLP e2;have:=other i a1 e1 q x m1;rcases(by simpa [bD] using m2:x=a\/x=d) with w|w;.exact absurd w this.1
   .exact absurd w this.2
  .rw[if_neg q]at e1;rw[if_neg z]at e2;exact I.apart.two i j a1 a2 x e1 e2 m1 m2
 .rw[get]at e;by_cases q:m=n
  .rw[if_pos q]at e;cases e;rcases(by simpa [bD] using hb:b=a\/b=d) with w|w;.subst w;exact⟨ba,pa,ha'⟩
   .subst w;refine⟨?_,λp hp e=>?_,hd'⟩
    .cases q:S.k.B.get? b with
     |none=>rfl
     |some ob=>have:=I.base b ob q;rw[hd]at this;cases this
    .obtain⟨sl,z,_⟩:=I.pins p hp;rw[e,hd]at z;cases z
  .rw[if_neg q]at e;refine aLJ λaA=>?_;obtain⟨h1,h2,ob,h3⟩:=I.own m ad' e b hb;exact aA ⟨h1,h2,ob,hk _ _ (other m ad' e q b hb).1 h3⟩
 .rw[bE,Tr.get_upd _ _ _ _ _ (aAV hlt hsz hfew)];by_cases q:m=n;.subst q;obtain⟨c,fs,e⟩:=hxc;exact⟨c,fs,by rw[if_pos rfl,e]⟩
  .rw[if_neg q];exact I.excs m hm
 .refine F.leaf (Gh.le_setD ‹_›) (λb ob hb e=>hk b ob (λq=>hb n _ ‹_› (by rw[q];exact aLQ _)) e) (λZ b ob v e hd=>hk b ob (λq=>?_) e) λm ad' b e hb=>?_;.subst q;obtain⟨_,ox,vs,e2,_,_,e3,_⟩:=hor;dsimp only at e2;rw[e]at e2;cases e2;rw[e3]at hd;cases hd
  .rw[get]at e;by_cases q:m=n
   .rw[if_pos q]at e;cases e;rcases(by simpa [bD] using hb:b=a\/b=d) with w|w;.rw[w,q];exact .inl ⟨(a,none),‹G.φ[n]? = some (a,none)›,aLQ _⟩
    .subst w;exact .inr hd
   .rw[if_neg q]at e;exact .inl ⟨ad',e,hb⟩
theorem AM{l G σ σ'}{o v:V}{x z:Value}{a:Nat}{Q:Unit->Shared->Prop}(K:bX S.k)(ha:a<S.k.T.na)(I:Inv S.k S.P G σ s)(F:FR S l G s.heap)(ho:VR G o x)(hv:VR G v z)(h:setA σ o a v=some σ')(hQ:∀s' G',G.Le G'->Inv S.k S.P G' σ' s'->FR S l G' s'.heap->Q () s'):wpAny S.k.M S.A (setAttr x (S.k.T.an a) z) Q E s:=by
 unfold Internal.setA at h;revert ho;refine mE h (λn h ho=>?_) λh ho=>bV h;refine ho.ref_el λad d h1=>?_;have hna:=K.na;have go:∀c fs ox d' (m:Str->Option Value) o',c<S.k.T.nc->s.heap.get? ad=some ox->ox.cls=.ref (S.k.T.ca c)->notCls ox=true->ox.dict=some d'->d=some d'->NsN s.heap d' m fs.length->dG S.k.T G m fs->fs.length<1000->σ.h.get n=some o'->
  (∀h' m',NsN h' d' m' (iM fs a v).length->dG S.k.T G m' (iM fs a v)->Heap.SameBut d' s.heap h'->∃o'',σ'=bE σ n o''/\OR S.k.prog S.k.w S.k.T G n h' (ad,d) o''/\(n∈G.excs->∃c fs,o''=.exc c fs))->
  wpAny S.k.M S.A (setAttr (.ref ad) (S.k.T.an a) z) Q E s:=by
  intro c fs ox d' m o' hc' h2 h3 h4 h5 hdd h6 h7 h8 h9 h10;refine aLJ λaA=>?_;refine e03 (K.clsAll c hc') λc1 c2 c3=>?_;refine e02 (K.clsAttr c a hc' ha) λZ c5=>?_;have hod:∃od,s.heap.get? d'=some od:=by obtain⟨od,_,_,e,_⟩:=h6;exact⟨od,e⟩
  obtain⟨od,hod⟩:=hod;have II:InstAt s.heap ad ox (S.k.T.ca c) (some od):=⟨h2,h3,h4,by rw[h5];exact hod⟩;refine aA ?_;refine EQ (K.frag.keeps I.base) II c2 h5 c3 c5 h6 (by omega) λh' hn' hsb=>?_;have hmf:∀b w,fF fs b=some w->(m (S.k.T.an b)).isSome=true:=λb w e=>by obtain⟨_,y,e2,_⟩:=h7 b w e;rw[e2];rfl
  have hle:NsN h' d' (λy=>if y=S.k.T.an a then some z else m y) (iM fs a v).length:=by
   refine aLJ λaA=>e35 hn' λoo es ep q1 q2 q3 q4 q5=>aA (fH oo es ep q1 q2 q3 q4 (rwl (tS ..) ?_));cases q:fF fs a with
   |none=>simp only[Option.isSome_none,Bool.false_eq_true,if_false];split at q5<;>omega
   |some w=>rw[if_pos (hmf a w q)]at q5;simpa using q5
  have hfr:dG S.k.T G (λy=>if y=S.k.T.an a then some z else m y) (iM fs a v):=λb w e=>by
   rw[xX]at e;by_cases q:b=a;.subst q;rw[if_pos rfl]at e;cases e;exact⟨by omega,z,by simp,hv⟩
   .rw[if_neg q]at e;obtain⟨hb,y,e2,e3⟩:=h7 b w e;refine⟨hb,y,?_,e3⟩;have:S.k.T.an b≠S.k.T.an a:=λz=>q (S.k.T.an_inj b a hb (by omega) z);simp only[if_neg this];exact e2
  refine e13 (h10 h' _ hle hfr hsb) λo'' aE hor hxc=>?_;subst aE;obtain⟨I',F'⟩:=rU (s':={ s with heap:=h',toks:=s.toks+1+1 }) I F h9 h1 (by rw[hdd];simp[bD]) hsb (by obtain⟨oo,es,ep,e,hd,_⟩:=h6;exact⟨oo,e,λv q=>(by rw[hd]at q;cases q)⟩)
   (by obtain⟨oo,es,ep,e,_⟩:=hle;exact⟨oo,e⟩) rfl rfl (by show s.toks<=s.toks+1+1;omega) hor hxc
  exact hQ _ G (.refl G) I' F'
 have hapart:∀d',d=some d'->ad≠d':=λd' e=>I.apart.one n ad d' (by rw[<- e];exact h1);refine aLJ λaA=>?_;cases hg:σ.h.get n with
 |none=>rw[hg]at h;exact bV h
 |some o=>
  rw[hg]at h;cases o with
  |inst c fs=>
   refine e02 (dN h) λhb e=>?_;cases e;have hlt:fs.length<1000:=by have:=aC.mp hb;rw[aD]at this;exact this
   obtain⟨ad',h2,hc',ox,d',m,h3,h4,h5,h6,h7,h8,h9,h10⟩:=I.objs n _ hg;rw[h1]at h2;cases h2;dsimp only at h3 h5;refine aA (go c fs ox d' m _ hc'.2 h3 h4 (by unfold notCls;rw[h7]) h6 h5 h8 h9 hlt hg λh' m' hn' hf' hsb=>⟨_,rfl,⟨hc',ox,d',m',(hsb.2 _ (hapart d' h5)).trans h3,h4,h5,h6,h7,hn',hf',?_⟩,λhx=>?_⟩);.rw[tS];split<;>omega
   .obtain⟨c,fs,e⟩:=I.excs _ hx;rw[hg]at e;cases e
  |exc c fs=>
   refine e02 (dN h) λhb e=>?_;cases e;have hlt:fs.length<1000:=by have:=aC.mp hb;rw[aD]at this;exact this
   obtain⟨ad',h2,hc',ox,vs,h3,h4,h5,h6,h7,h8,h9⟩:=I.objs n _ hg;rw[h1]at h2;cases h2;cases d with
   |none=>
    have hfs:fs=[]:=h9;subst hfs;have hc2:c<S.k.T.nc:=aLL hc' K.nxc;refine e03 (K.clsAll c hc2) λc1 c2 c3=>?_;obtain⟨_,c5⟩:=(K.clsAttr c a hc2 ha);have II:InstAt s.heap ad ox (S.k.T.ca c) none:=⟨h3,h4,by unfold notCls;rw[h6],by rw[h5];trivial⟩;refine aA (AL (K.frag.keeps I.base) II c2 h5 c3 c5 λh' hn' hx' hk'=>?_);obtain⟨ex,es⟩:∃d,d=s.heap.objs.size:=⟨_,rfl⟩;rw[<- es]at hn' hx';have hfr:dG S.k.T (G.setD n ad ex) (λy=>if y=S.k.T.an a then some z else none) (iM [] a v):=λb w e=>by
     rw[xX]at e;by_cases q:b=a;.subst q;rw[if_pos rfl]at e;cases e;exact⟨by exact aFx hna ha,z,by simp,hv.mono (Gh.le_setD h1)⟩
     .rw[if_neg q]at e;cases e
    obtain⟨I',F'⟩:=aIh (s':={ s with heap:=h',toks:=s.toks+1+1 }) (o':=.exc c (iM [] a v)) I F hg h1 (by rw[es];exact lR _) hk' ⟨_,hx'⟩ (by obtain⟨oo,_,_,e,_⟩:=hn';exact⟨oo,e⟩) rfl rfl
     (by show s.toks<=s.toks+1+1;omega) ⟨hc',_,vs,hx',h4,rfl,h6,h7,⟨(by
      refine aLJ λaA=>?_;rcases h8.1 with q|⟨k',a',d',q1,q2,q3,q4⟩;.exact aA (.inl q)
      .refine e11 ((Gh.le_setD (d:=ex) h1).1 _ _ _ q3) λd'' q5=>?_;refine aA ?_;exact .inr ⟨k',a',d'',q1,q2,q5,q4⟩),h8.2⟩,_,hn',hfr,by show 1<=_;omega⟩ ⟨_,_,rfl⟩
    exact hQ _ _ (Gh.le_setD h1) I' F'
   |some d'=>refine e13 h9 λm h10 h11 h12=>aA (go c fs ox d' m _ (aLL hc' K.nxc) h3 h4 (by unfold notCls;rw[h6]) h5 rfl h10 h11 hlt hg λh' m' hn' hf' hsb=>⟨_,rfl,⟨hc',ox,vs,(hsb.2 _ (hapart d' rfl)).trans h3,h4,h5,h6,h7,h8,m',hn',hf',?_⟩,λhx=>⟨_,_,rfl⟩⟩);rw[tS];split<;>omega
  |_=>exact bV h
section
variable {S:Sit}{f g h:Loc->St->RE V}{a b c:Expr}{pos p':Pos}
theorem aB3{i:Nat}(K:bX S.k)(hi:i<S.k.T.na)(ga:aH S f a)(gb:aH S g b)(hc:gN a=true):
 bT S (λl s=>(f l s).bs l λv s=>(g l s).bs l λo s=>fB l (setA s o i v)) (exec (.Assign [.Attribute b (S.k.T.an i) p'] a pos) S.env):=by
 intro l G σ s I F H hn;dsimp only at hn|-;refine plainObj_wpAny_Assign_Attribute ((ga I F H).stepS hn (λZ Z p=>p) λv aG bB y aO e1 n1 L1 I1 F1 V1=>?_) (nL hc _ _ _);refine rwl (e1 ..) ?_;refine(gb I1 F1 (H.mono L1)).stepS n1 (λZ Z p=>p.le L1) λo aJ eS z bL e2 n2 L2 I2 F2 V2=>?_;refine rwl (e2 ..) ?_;refine e12 (oH n2) λσ' h1 h2=>?_;refine rwl (h2 ..) ?_;exact AM K hi I2 F2 V2 (V1.mono L2) h1 λs' G' L' I' F'=>PS.le ((L1.trans L2).trans L') (dU I' F')
theorem aB2(ga:aH S f a)(gb:aH S g b)(gc:aH S h c)(hc:gN a=true):
 bT S (λl s=>(f l s).bs l λv s=>(g l s).bs l λo s=>(h l s).bs l λi s=>fB l (Internal.setItem s o i v)) (exec (.Assign [.Subscript b c p'] a pos) S.env):=by
 intro l G σ s I F H hn;dsimp only at hn|-;refine wpAny_Assign_Subscript ((ga I F H).stepS hn (λZ Z p=>p) λv aG bB y aO e1 n1 L1 I1 F1 V1=>?_) (nL hc _ _ _);refine rwl (e1 ..) ?_;refine(gb I1 F1 (H.mono L1)).stepS n1 (λZ Z p=>p.le L1) λo aJ eS z bL e2 n2 L2 I2 F2 V2=>?_;refine rwl (e2 ..) ?_;have L12:=L1.trans L2;refine(gc I2 F2 (H.mono L12)).stepS n2 (λZ Z p=>p.le L12) λi eB eV zz bU e3 n3 L3 I3 F3 V3=>?_;refine rwl (e3 ..) ?_;refine e12 (oH n3) λσ' h1 h2=>?_;refine rwl (h2 ..) ?_;exact qO I3 F3 (V2.mono L3) V3 ((V1.mono L2).mono L3) h1 λs' I' F'=>PS.le (L12.trans L3) (dU I' F')
theorem aB6{i:Nat}{op:BO}(K:bX S.k)(hi:i<S.k.T.na)(ga:aH S f a)(gb:aH S g b):
 bT S (λl s=>(f l s).bs l λo s=>eM (tQ s o i) λx=>(g l s).bs l λy s=>(iG op x y s).bs l λv s=>fB l (setA s o i v)) (exec (.AugAssign (.Attribute a (S.k.T.an i) p') (sX op) b pos) S.env):=by
 intro l G σ s I F H hn;dsimp only at hn|-;refine wpAny_AugAssign_AttributeAny ((ga I F H).stepS hn (λZ Z p=>p) λo aG bB y aO e1 n1 L1 I1 F1 V1=>?_);refine rwl (e1 ..) ?_;refine e12 (jM n1) λx hx ex=>?_;replace n1:=(ex)▸n1;refine rwl (ex ..) ?_;refine CN K I1 V1 hx hi λz hz=>?_;refine(gb (s:={ aO with toks:=aO.toks+1 }) I1.toks F1 (H.mono L1)).stepS n1 (λZ Z p=>p.le L1) λu aJ eS zz bL e2 n2 L2 I2 F2 V2=>?_;refine rwl (e2 ..) ?_;have L12:=L1.trans L2;refine(qI I2 F2 (hz.mono L2) V2).stepS n2 (λZ Z p=>p.le L12) λr eB eV q bU e3 n3 L3 I3 F3 V3=>?_;refine rwl (e3 ..) ?_;refine e12 (oH n3) λσ' h1 h2=>?_;refine rwl (h2 ..) ?_;exact AM K hi I3 F3 ((V1.mono L2).mono L3) V3 h1 λs' G' L' I' F'=>PS.le ((L12.trans L3).trans L') (dU I' F')
theorem uL{i:Expr}(h:iV i=true)(ov iv new:Value):augStore i ov iv new=(do holding [new,ov,iv] (PySem.setItem ov iv new);release [new,ov,iv] [];pure .next):=by cases i<;>first|rfl|cases h
theorem aB5{op:BO}(ga:aH S f a)(gb:aH S g b)(gc:aH S h c)(hb:iV b=true):
 bT S (λl s=>(f l s).bs l λo s=>(g l s).bs l λi s=>eM (item s o i) λx=>(h l s).bs l λy s=>(iG op x y s).bs l λv s=>fB l (Internal.setItem s o i v)) (exec (.AugAssign (.Subscript a b p') (sX op) c pos) S.env):=by
 intro l G σ s I F H hn;dsimp only at hn|-;refine wpAny_AugAssign_SubscriptAny ((ga I F H).stepS hn (λZ Z p=>p) λo aG bB y aO e1 n1 L1 I1 F1 V1=>?_) (uL hb);refine rwl (e1 ..) ?_;refine(gb I1 F1 (H.mono L1)).stepS n1 (λZ Z p=>p.le L1) λi aJ eS z bL e2 n2 L2 I2 F2 V2=>?_;refine rwl (e2 ..) ?_;have L12:=L1.trans L2;refine e12 (jM n2) λx hx ex=>?_;replace n2:=(ex)▸n2;refine rwl (ex ..) ?_;obtain⟨T,id,_,_,hg⟩:=CA (k:=S.k) (A:=S.A)
  (Q:=λold bU=>wpAny S.k.M S.A (eval c S.env) (λv kJ=>wpAny S.k.M S.A (inplaceOp (sX op) old v) (λnew EK=>wpAny S.k.M S.A (PySem.setItem y z new) (λZ=>PS S G ((h l aJ).bs l λy s=>(iG op x y s).bs l λv s=>fB l (Internal.setItem s o i v)) .next) (PSX S G ((h l aJ).bs l λy s=>(iG op x y s).bs l λv s=>fB l (Internal.setItem s o i v))) EK) (PSX S G ((h l aJ).bs l λy s=>(iG op x y s).bs l λv s=>fB l (Internal.setItem s o i v))) kJ) (PSX S G ((h l aJ).bs l λy s=>(iG op x y s).bs l λv s=>fB l (Internal.setItem s o i v))) bU)
  (E:=PSX S G ((h l aJ).bs l λy s=>(iG op x y s).bs l λv s=>fB l (Internal.setItem s o i v))) I2 (V1.mono L2) V2 hx λzz t ht hz=>by refine(gc (s:={ bL with toks:=t }) I2.toks F2 (H.mono L12)).stepS n2 (λZ Z p=>p.le L12) λu eB eV q bU e3 n3 L3 I3 F3 V3=>rwl (e3 ..) ?_;have L13:=L12.trans L3;exact(qI I3 F3 (hz.mono L3) V3).stepS n3 (λZ Z p=>p.le L13) λr HC aC9 q' kJ e4 n4 L4 I4 F4 V4=>rwl (e4 ..) (e12 (oH n4) λσ' h1 h2=>rwl (h2 ..) (qO I4 F4 (((V1.mono L2).mono L3).mono L4) ((V2.mono L3).mono L4) V4 h1 λs' I' F'=>PS.le (L13.trans L4) (dU I' F')))
 exact hg
theorem aJw(ok:S.OK)(ga:aH S f a)(hc:gN a=true):bT S (λl s=>(f l s).bs l λv s=>sel (iF v) (.ok .next l s) .stuck) (exec (.Expr a pos) S.env):=by
 intro l G σ s I F H hn;dsimp only at hn|-;refine wpAny_Expr ((ga I F H).stepS hn (λZ Z p=>p) λv aG bB y aO e1 n1 L1 I1 F1 V1=>rwl (e1 ..) ?_) (by unfold interactive;rw[ok.fn];rfl) (nL hc _ _ _);cases v with
 |none=>cases V1;exact PS.le L1 (dU I1 F1)
 |_=>exact absurd rfl n1
inductive TgR(S:Sit):Expr->Tg->Prop where
 |n {x p i}:Wr S x i->TgR S (.Name x p) (.n i)
 |t {es k p is}:cU (λe i=>∃x q,e=.Name x q/\Wr S x i) es is->TgR S (.Tuple es k p) (.t is)
theorem jZ(x:Str)(q:Pos)(r:List Expr)(env:Env):assignEach (.Name x q::r) env=(false,assign (.Name x q) env)::assignEach r env:=rfl
theorem TG:∀{es is},cU (λe i=>∃x q,e=.Name x q/\Wr S x i) es is->(assignEach es S.env).length=is.length/\(assignEach es S.env).findIdx? (·.1)=none:=by
 intro es is h;induction h with
 |nil=>exact⟨rfl,rfl⟩
 |cons a r ih=>refine e22 a λx q bF Z=>rwl bF ?_;obtain⟨h1,h2⟩:=ih;refine rwl (jZ ..) ⟨by simp[h1],?_⟩;rw[List.findIdx?_cons,h2];rfl
theorem aCe(vs:List V)(l:Loc):mP [] vs l=List.rec (some l) (λZ Z Z=>none) vs:=rfl
theorem qS(i:Nat)(is:List Nat)(v:V)(vs:List V)(l:Loc):mP (i::is) (v::vs) l=mP is vs (bZ l i (some v)):=rfl
theorem KQ(ok:S.OK){G σ}{Q:Unit->Shared->Prop}{l':Loc}:∀{es is}{vs:List V}{xs:List Value}{l:Loc}{s:Shared},cU (λe i=>∃x q,e=.Name x q/\Wr S x i) es is->
 mP is vs l=some l'->VRs G vs xs->Inv S.k S.P G σ s->FR S l G s.heap->(∀s',Inv S.k S.P G σ s'->FR S l' G s'.heap->Q () s')->wpAny S.k.M S.A (assignInOrder ((assignEach es S.env).map (·.2)) xs) Q E s:=by
 intro es is vs xs l s h;induction h generalizing vs xs l s with
 |nil=>
  intro hp hv I F hQ;cases hv with
  |nil=>cases hp;exact wpAny_pure (hQ s I F)
  |cons _ _=>cases hp
 |@cons _ _ es is a hr ih=>
  refine e22 a λx q bF hw=>rwl bF ?_;intro hp hv I F hQ;cases hv with
  |nil=>cases hp
  |cons h1 h2=>rw[qS]at hp;refine rwl (jZ ..) ?_;show wpAny S.k.M S.A (do holding _ (assign (.Name x q) S.env _);assignInOrder ((assignEach es S.env).map (·.2)) _) Q E s;exact wpAny_bind (wpAny_holding (assign_Name (hw.store ok I F h1 λs' I' F'=>ih hp h2 I' F' hQ)))
theorem sU:∀{is:List Nat}{vs:List V}{l l':Loc},mP is vs l=some l'->is.length=vs.length
 | [],[],_,_,_=>rfl
 | [],_::_,_,_,h=>by cases h
 |_::_,[],_,_,h=>by cases h
 |i::is,v::vs,l,l',h=>by rw[qS]at h;simp[sU h]
theorem yV(ok:S.OK){t:Tg}{l l':Loc}{v:V}{y:Value}{G σ}{Q:Unit->Shared->Prop}(r:TgR S e t)(hp:put l t v=some l')(hs:S.C.hs=false)(I:Inv S.k S.P G σ s)(F:FR S l G s.heap)(hv:VR G v y)(hQ:∀s',Inv S.k S.P G σ s'->FR S l' G s'.heap->Q () s'):wpAny S.k.M S.A (assign e S.env y) Q E s:=by
 refine aLJ λaA=>?_;cases r with
 |n w=>refine aA ?_;cases hp;exact assign_Name (w.store ok I F hv hQ)
 |t hr=>
  cases v with
  |tup vs=>have hp':mP _ vs l=some l':=hp;refine aA (hv.tup_el λa xs h1 h2 Z=>?_);have hl:=h2.length;have hl2:=sU hp';refine e02 (TG hr) λe1 e2=>wpAny_assign_Tuple (items:=xs.toArray) (ok.handled hs) (I.tups _ h1) (by rw[e1];simp;exact aHd hl hl2) e2 λh' he=>?_;have hk:∀b o,s.heap.get? b=some o->h'.get? b=some o:=λb o e=>he b o (aLT (aL2 e)) e;exact KQ ok hr hp' h2 (I.keeps (s':={ s with heap:=h' }) rfl rfl hk) (F.keeps hk) hQ
  |_=>cases hp
def YS(e:Expr):Bool:=sel (Nat.beq e.ctorIdx 23) true (sel (Nat.beq e.ctorIdx 21) true (sel (Nat.beq e.ctorIdx 20) true (Nat.beq e.ctorIdx 16)))
theorem aB8{k:Nat}{is:List Nat}(ok:S.OK)(hs:S.C.hs=false)(r:TgR S (.Tuple es k p') (.t is))(ga:aH S f a)(hc:YS a=true):
 bT S (λl s=>(f l s).bs l λv s=>eM (put l (.t is) v) λl=>.ok .next l s) (exec (.Assign [.Tuple es k p'] a pos) S.env):=by
 intro l G σ s I F H hn;dsimp only at hn|-;have h1:swapsWithSole [.Tuple es k p'] a pos.line S.env=pure false:=by cases a<;>first|rfl|cases hc
 have h2:swappedStores [.Tuple es k p'] a S.env=pure none:=by cases a<;>first|rfl|cases hc
 refine Assign_Tuple ((ga I F H).stepS hn (λZ Z p=>p) λv aG bB y aO e1 n1 L1 I1 F1 V1=>?_) h1 h2;refine rwl (e1 ..) ?_;refine e12 (jM n1) λl' hp e2=>?_;refine rwl (e2 ..) ?_;exact yV ok r hp hs I1 F1 V1 λs' I' F'=>PS.le L1 (dU I' F')
end
theorem Inv.slots{k P G σ}{h':Heap}{fr:List Addr}(I:Inv k P G σ s)(hs:Heap.SlotsOnly fr s.heap h')(hf:∀b∈fr,k.B.get? b=none/\(∀(n:Nat) ad,G.φ[n]? = some ad->b∉bD ad)/\∃o es n,s.heap.get? b=some o/\o.data=.dict es n):Inv k P G σ { s with heap:=h' }:=by
 have same:∀b o,b∉fr->s.heap.get? b=some o->h'.get? b=some o:=λb o hb e=>(hs.2.1 b hb).trans e;have keepD:∀b o,s.heap.get? b=some o->(∀es n,o.data≠.dict es n)->h'.get? b=some o:=λb o e hd=>same b o (λhb=>by
  obtain⟨_,_,o',es,n,e',hd'⟩:=hf b hb;rw[e]at e';cases e';exact hd _ _ hd') e
 refine⟨I.g0,I.gens,I.os,I.tk,λb o e=>same b o (λhb=>by rw[(hf b hb).1]at e;cases e) (I.base b o e),λp hp=>?_,I.pinsB,I.pinsK,I.size,I.few,λn o e=>?_,I.full,I.apart,λn ad e x hx=>?_,λt ht=>?_,λt ht=>?_,I.excs,I.fz⟩;.refine e12 (I.pins p hp) λsl e q=>?_;obtain⟨sl',e'⟩:=(hs.2.2 _ _ e);refine⟨sl',e',λhnd=>?_⟩;have e2:=keepD _ _ e hnd;rw[e']at e2;have:sl'=sl:=congrArg Obj.slots (aLP e2);rw[this];exact q hnd
 .refine e12 (I.objs n o e) λad h1 h2=>?_;exact⟨ad,h1,h2.at (.refl G) λa ha ob q=>same a ob (λhb=>(hf a hb).2.1 n ad h1 ha) q⟩
 .obtain⟨h1,h2,o,h3⟩:=I.own n ad e x hx;exact⟨h1,h2,o,same x o (λhb=>(hf x hb).2.1 n ad e hx) h3⟩
 .obtain⟨o,e,hc,n,hd⟩:=I.tups t ht;exact⟨o,keepD _ _ e (λes n q=>by rw[hd]at q;cases q),hc,n,hd⟩
 .refine e31 (I.rngs t ht) λa b c r=>?_;exact aBq a b c (keepD _ _ r (λes n q=>by cases q))
theorem FR.slots{S l G}{h h':Heap}{fr:List Addr}(F:FR S l G h)(hs:Heap.SlotsOnly fr h h'):FR S l G h':=by
 refine aLJ λaA=>?_;have cell:∀c v,h.IsCell c v->h'.IsCell c v:=λc v ⟨o,e,hd⟩=>by obtain⟨sl,e'⟩:=hs.2.2 _ _ e;exact⟨_,e',hd⟩
 refine e12 F.loc λm yP hm'=>e33 yP λo es ep e hd r=>e11 (hs.2.2 _ _ e) λsl e'=>aA ?_;exact⟨⟨m,⟨_,es,ep,e',hd,r⟩,hm'⟩,λx i v h1 h2 h3=>e23 (F.cell x i v h1 h2 h3) λc y h4 h5 h6=>⟨c,y,h4,cell _ _ h5,h6⟩,F.lo,
  λhcm x hx=>e23 (F.cellLo hcm x hx) λc v h4 h5 h6=>⟨c,v,h4,cell _ _ h5,h6⟩,F.cellInj⟩
theorem FR.but{S l G}{h h':Heap}{t:Addr}(F:FR S l G h)(hk:∀b o,b≠t->h.get? b=some o->h'.get? b=some o)(ht:∃o vs,h.get? t=some o/\o.data=.fields vs):FR S l G h':=by
 refine e22 ht λot vs et hdt=>?_;have cell:∀c v,h.IsCell c v->h'.IsCell c v:=λc v ⟨o,e,hd⟩=>⟨o,hk c o (λq=>by rw[q,et]at e;cases e;rw[hdt]at hd;cases hd) e,hd⟩;refine e12 F.loc λm yP hm'=>e33 yP λo es ep e hd r=>?_;have e':=hk _ _ (λq=>by rw[q,et]at e;cases e;rw[hdt]at hd;cases hd) e;exact⟨⟨m,⟨_,es,ep,e',hd,r⟩,hm'⟩,λx i v h1 h2 h3=>e23 (F.cell x i v h1 h2 h3) λc y h4 h5 h6=>⟨c,y,h4,cell _ _ h5,h6⟩,F.lo,
  λhcm x hx=>e23 (F.cellLo hcm x hx) λc v h4 h5 h6=>⟨c,v,h4,cell _ _ h5,h6⟩,F.cellInj⟩
structure Tb(k:Kit)(T a:Addr)(h:Heap)(x3:Value):Prop where
 base:k.B.get? T=none
 ne:T≠a
 obj:∃oT ts,h.get? T=some oT/\oT.cls=.type "traceback"/\oT.data=.fields ts/\ts[3]? = some x3
def lJ(k:Kit)(a:Addr)(h:Heap)(x3:Value):Prop:=∃oe vs T,h.get? a=some oe/\oe.data=.fields vs/\vs[1]? = some (.ref T)/\Tb k T a h x3
theorem Inv.looseTb{k P G σ}{T:Addr}{oT:Obj}{ts:Array Value}(I:Inv k P G σ s)(hB:k.B.get? T=none)(ho:s.heap.get? T=some oT)(hc:oT.cls=.type "traceback")(hd:oT.data=.fields ts):uQ k P G s.heap T:=by
 refine⟨hB,λp hp e=>?_,λn ad e hb=>?_,λo e=>?_⟩
 .refine e12 (I.pins p hp) λsl q Z=>?_;rw[e,ho]at q;have q':=aLP q;rcases I.pinsK p hp with z|z;.exact z (by have:=congrArg Obj.cls q';rw[hc]at this;exact this.symm)
  .exact z ts (by have:=congrArg Obj.data q';rw[hd]at this;exact this.symm)
 .refine e11 (I.full n ad e) λo ho'=>e12 (I.objs n o ho') λad' h1 h2=>?_;rw[e]at h1;cases h1;have nd:∀{d m q},NsN s.heap d m q->T=d->False:=by rintro d m q ⟨o,es,ep,e2,hd2,_⟩ rfl;rw[ho]at e2;cases e2;rw[hd]at hd2;cases hd2
  obtain⟨a1,a2⟩:=ad;cases o with
  |list l=>
   obtain⟨h3,xs,t29,_⟩:=h2;obtain⟨m,h4⟩:=t29;subst h3;have:T=a1:=by simpa [bD] using hb
   subst this;dsimp only at h4;rw[ho]at h4;cases h4;cases hd
  |inst c fs=>
   obtain⟨_,ox,d,m,h3,h4,h5,h6,h7,h8,_⟩:=h2;subst h5;rcases(by simpa [bD] using hb:T=a1\/T=d) with q|q;.subst q;dsimp only at h3;rw[ho]at h3;cases h3;rw[h7]at hd;cases hd
   .exact nd h8 q
  |dict kvs=>
   obtain⟨h3,es,ep,AH,_⟩:=h2;refine e24 AH λo es' h4 u39 h5 u59=>?_;subst h3;have:T=a1:=by simpa [bD] using hb
   subst this;dsimp only at h4;rw[ho]at h4;cases h4;rw[h5]at hd;cases hd
  |exc c fs=>
   obtain⟨_,ox,vs,h3,h4,h5,h6,h7,h8,h9⟩:=h2;have nq:T≠a1:=λq=>by subst q;dsimp only at h3;rw[ho]at h3;cases h3;rw[hc]at h4;cases h4
   cases a2 with
   |none=>exact nq (by simpa [bD] using hb)
   |some d=>
    refine e12 h9 λm h10 Z=>?_;rcases(by simpa [bD] using hb:T=a1\/T=d) with q|q;.exact nq q
    .exact nd h10 q
 .rw[ho]at e;cases e;exact⟨.inl (by rw[hc];intro q;injection q with q;revert q;decide),.inl (by rw[hc];intro q;injection q with q;revert q;decide)⟩
theorem Inv.same{k P G σ}{o:O}(hn:σ.h.get n=some o)(hlt:n+1<2 ^ 10)(I:Inv k P G (bE σ n o) s):Inv k P G σ s:=by
 have get:∀m,(bE σ n o).h.get m=σ.h.get m:=λm=>by
  simp only[bE,Tr.get_upd _ _ _ _ _ hlt];by_cases q:m=n;.exact rwl (if_pos q ..) (rwl (q ..) (rwl (hn ..) rfl))
  .exact rwl (if_neg q ..) rfl
 exact⟨I.g0,I.gens,I.os,I.tk,I.base,I.pins,I.pinsB,I.pinsK,I.size,I.few,λm om e=>I.objs m om (by rw[get];exact e),λm ad e=>by obtain⟨o,h⟩:=I.full m ad e;exact⟨o,by rw[get]at h;exact h⟩,I.apart,I.own,I.tups,I.rngs,
  λm hm=>(by obtain⟨c,fs,h⟩:=I.excs m hm;exact⟨c,fs,by rw[get]at h;exact h⟩),I.fz⟩
section
variable {S:Sit}{l:Loc}{G:Gh}{σ:St}{s:Shared}{n:Nat}{a:Addr}{d:Option Addr}{E:Value->Shared->Prop}
theorem ND{T:Addr}{x3:Value}{x:Value}{Q:Unit->Shared->Prop}(I:Inv S.k S.P G σ s)(F:FR S l G s.heap)(t:Tb S.k T a s.heap x3)(hQ:∀s',Inv S.k S.P G σ s'->FR S l G s'.heap->Tb S.k T a s'.heap x->(∀b o,b≠T->s.heap.get? b=some o->s'.heap.get? b=some o)->Q () s'):wpAny S.k.M S.A (setField (.ref T) 3 x) Q E s:=by
 refine e24 t.obj λoT ts h1 h2 h3 h4=>?_;have hlt:3<ts.size:=(Array.getElem?_eq_some_iff.mp h4).1;refine wpAny_setField h1 h3 hlt (hQ _ ?_ ?_ ⟨t.base,t.ne,?_⟩ ?_);.exact I.loose (I.looseTb t.base h1 h2 h3) rfl rfl λb o hb e=>(Heap.get?_update_other _ _ (aMd hb)).trans e
 .exact F.but (t:=T) (λb o hb e=>(Heap.get?_update_other _ _ (aMd hb)).trans e) ⟨_,_,h1,h3⟩
 .exact aBs _ _ (Heap.get?_update_self _ h1 (Obj.isFreed_of_fields (Obj.data_mapFields h3 _))) ((Obj.cls_mapFields ..).trans h2) (Obj.data_mapFields h3 _) (by simp[hlt])
 .exactλb o hb e=>(Heap.get?_update_other _ _ (aMd hb)).trans e
theorem tX{A':Around}{i:Nat}{x:Value}{c:Nat}{fs:List (Nat×V)}{Q:Unit->Shared->Prop}(I:Inv S.k S.P G σ s)(F:FR S l G s.heap)(hg:σ.h.get n=some (.exc c fs))(hi1:i=1->n∈G.excs)(ha:G.φ[n]? = some (a,d))(hi:i<6)(hi2:i=2->x=.none\/∃k' a' d',k'<n/\k'∈G.excs/\G.φ[k']? = some (a',d')/\x=.ref a')(hQ:∀s',Inv S.k S.P G σ s'->FR S l G s'.heap->(∃o vs o',s.heap.get? a=some o/\o.data=.fields vs/\vs.size=6/\s'.heap.get? a=some o'/\o'.data=.fields (vs.setIfInBounds i x))->(∀b o,b≠a->s.heap.get? b=some o->s'.heap.get? b=some o)->s'.toks=s.toks->Q () s'):
 wpAny S.k.M A' (setField (.ref a) i x) Q E s:=by
 refine aLJ λaA=>?_;refine e12 (I.objs n _ hg) λad' h1 hor=>?_;rw[ha]at h1;cases h1;obtain⟨h0,ox,vs,h2,h3,h4,h5,h6,h7,h8⟩:=id hor;have hlt:n<G.φ.length:=(List.getElem?_eq_some_iff.mp ha).1;have hsz:=I.size;have hfew:=I.few;have hk:∀b o,b≠a->s.heap.get? b=some o->(s.heap.update a (Obj.mapFields (·.setIfInBounds i x))).get? b=some o:=λb o hb e=>(Heap.get?_update_other _ _ (aMd hb)).trans e;have hg':=Heap.get?_update_self (Obj.mapFields (·.setIfInBounds i x)) h2 (Obj.isFreed_of_fields (Obj.data_mapFields h5 _));have hdict:(Obj.mapFields (·.setIfInBounds i x) ox).dict=ox.dict:=by obtain⟨q1,q2,q3,q4⟩:=ox;cases q3<;>rfl
 refine aA ?_;refine wpAny_setField h2 h5 (by omega) (hQ _ ?_ ?_ ⟨ox,vs,_,h2,h5,h6,hg',Obj.data_mapFields h5 _⟩ hk rfl)
 .refine Inv.same hg (by omega) (I.setObj hg ha (by omega) rfl rfl (λb ob hb e=>hk b ob (λq=>hb (by rw[q];exact aLQ _)) e) ?_ (λb hb=>?_) λZ=>⟨_,_,rfl⟩)
  .refine⟨h0,_,_,hg',(Obj.cls_mapFields ..).trans h3,hdict.trans h4,Obj.data_mapFields h5 _,by simp[h6],⟨?_,?_⟩,?_⟩
   .by_cases q:i=2
    .subst q;refine aLJ λaA=>?_;rcases hi2 rfl with e|⟨k',a',d',e1,e2,e3,e4⟩;.refine aA ?_;left;simp[h6,e]
     .refine aA ?_;right;exact⟨k',a',d',e1,e2,e3,by simp[h6,e4]⟩
    .rw[Array.getElem?_setIfInBounds_ne q];exact h7.1
   .by_cases q:i=1;.exact .inl (hi1 q)
    .rw[Array.getElem?_setIfInBounds_ne q];exact h7.2
   .cases d with
    |none=>exact h8
    |some d=>refine e12 h8 λm h9 h10=>?_;have hne:d≠a:=λq=>I.apart.one n a d ha q.symm;exact⟨m,h9.at' λo e=>hk d o hne e,h10⟩
  .by_cases q:b=a;.subst q;exact⟨_,hg'⟩
   .obtain⟨_,_,ob,e⟩:=I.own n _ ha b hb;exact⟨ob,hk b ob q e⟩
 .exact F.but hk ⟨_,_,h2,h5⟩
theorem XW{i:Nat}{x:Value}{Q:Unit->Shared->Prop}(I:Inv S.k S.P G σ s)(F:FR S l G s.heap)(hn:n∈G.excs)(ha:G.φ[n]? = some (a,d))(hi:i<6)(hi2:i=2->x=.none\/∃k' a' d',k'<n/\k'∈G.excs/\G.φ[k']? = some (a',d')/\x=.ref a')(hQ:∀s',Inv S.k S.P G σ s'->FR S l G s'.heap->(∃o vs o',s.heap.get? a=some o/\o.data=.fields vs/\vs.size=6/\s'.heap.get? a=some o'/\o'.data=.fields (vs.setIfInBounds i x))->(∀b o,b≠a->s.heap.get? b=some o->s'.heap.get? b=some o)->s'.toks=s.toks->Q () s'):
 wpAny S.k.M S.A (setField (.ref a) i x) Q E s:=by
 refine e21 (I.excs n hn) λc fs hg=>?_;exact tX I F hg (λZ=>hn) ha hi hi2 hQ
theorem LV(ok:S.OK)(hc:S.C.comp=false)(I:Inv S.k S.P G σ s)(F:FR S l G s.heap):s.heap.FunFrames S.k.B (S.env::S.outer)/\
 ∀b∈(S.env::S.outer).filterMap (·.frame),S.k.B.get? b=none/\(∀(n:Nat) ad,G.φ[n]? = some ad->b∉bD ad)/\∃o es n,s.heap.get? b=some o/\o.data=.dict es n:=by
 refine aLJ λaA=>?_;obtain⟨_,hfe,hfr⟩:S.C.comp=false/\S.fenv=S.env/\S.env.frame=some S.env.locals:=by
  refine aLJ λaA=>?_;rcases ok.mine with q|⟨q,_⟩;.exact aA q
  .rw[hc]at q;cases q
 have outs:∀(es:List Env),(∀e∈es,e.scope.kind≠.module/\∃L o,e.frame=some L/\(L,o)∈S.P/\∃es n,o.data=.dict es n)->s.heap.FunFrames S.k.B es/\
  ∀b∈es.filterMap (·.frame),S.k.B.get? b=none/\(∀(n:Nat) ad,G.φ[n]? = some ad->b∉bD ad)/\∃o es n,s.heap.get? b=some o/\o.data=.dict es n:=by
  intro es;induction es with
  |nil=>exactλZ=>⟨trivial,λb hb=>by cases hb⟩
  |cons e es ih=>
   intro h;refine aLJ λaA=>?_;obtain⟨h1,L,o,h2,h3,es',n',h4⟩:=h e (aLQ _);refine e02 (ih λe' he'=>h e' (List.Mem.tail _ he')) λih1 ih2=>e12 (I.pins _ h3) λsl h5 Z=>?_;have hB:=I.pinsB _ h3;refine aA ⟨⟨h1,⟨L,_,h2,hB,h5,λvs q=>by rw[show({ o with slots:=sl }:Obj).data=o.data from rfl,h4]at q;cases q⟩,ih1⟩,λb hb=>?_⟩;replace hb:=(h2)▸(List.filterMap_cons)▸hb;rcases List.mem_cons.mp hb with q|hb;.subst q;exact⟨hB,λn ad e hx=>(I.own n ad e b hx).2.1 _ h3 rfl,_,es',n',h5,h4⟩
   .exact ih2 b hb
 refine aA ?_;refine aLJ λaA=>?_;refine e02 (outs S.outer ok.out) λo1 o2=>?_;refine e12 (id F.loc) λm hm Z=>?_;refine e33 (id hm) λoL es ep e hd Z=>?_;refine aA ?_;refine⟨⟨by rw[ok.fn];decide,⟨S.env.locals,oL,hfr,F.lo.1,e,λvs q=>by rw[hd]at q;cases q⟩,o1⟩,λb hb=>?_⟩;replace hb:=(hfr)▸(List.filterMap_cons)▸hb;rcases List.mem_cons.mp hb with q|hb;.subst q;exact⟨F.lo.1,F.lo.2.2,oL,es,ep,e,hd⟩
 .exact o2 b hb
theorem kP{Q:Unit->Shared->Prop}(ok:S.OK)(hc:S.C.comp=false)(I:Inv S.k S.P G σ s)(F:FR S l G s.heap)(hn:n∈G.excs)(ha:G.φ[n]? = some (a,d))(fly:Fly S.k S.L a s.heap)(hQ:∀s',Inv S.k S.P G σ s'->FR S l G s'.heap->lJ S.k a s'.heap (rawInt S.L)->Q () s'):wpAny S.k.M S.A (noteFrame (.ref a) S.env) Q E s:=by
 refine aLJ λaA=>?_;obtain⟨_,hfe,hfr⟩:S.C.comp=false/\S.fenv=S.env/\S.env.frame=some S.env.locals:=by
  refine aLJ λaA=>?_;rcases ok.mine with q|⟨q,_⟩;.exact aA q
  .rw[hc]at q;cases q
 have hL:S.L=S.env.locals:=by unfold Sit.L;rw[hfe,hfr];rfl
 have hframes:S.A.frames=some (S.env::S.outer):=by rw[ok.frames,hfe]
 rw[hL]at fly hQ;have entry:∀{s:Shared}{head:Value}{b:Bool},Inv S.k S.P G σ s->FR S l G s.heap->
  wpAny S.k.M S.A (do let f <- frameOf S.env;let pl <- entryPlaceOf S.env.locals b;let t <- EntryCells.newEntry head f .none (rawInt S.env.locals) .none pl;setField (.ref a) 1 t) Q E s:=by
  intro s head b I F;refine e02 (LV ok hc I F) λff fb=>?_;refine wpAny_bind (wpAny_frameOf_fun hframes ff hfr λeW rB=>?_);have I1:=I.slots rB fb;have F1:=F.slots rB;refine wpAny_bind (wpAny_entryPlaceOf λpl hpl=>?_);delta EntryCells.newEntry newFields;refine wpAny_bind (wpAny_newObj_type ?_ (hpl.sizeOk5 _ _ _ _ _));obtain⟨tv,htv⟩:∃tv,tv=([head,.ref S.env.locals,.none,rawInt S.env.locals,.none]++(if pl.isEmpty then List.replicate 6 Value.none else pl)).toArray:=⟨_,rfl⟩;refine rwr (htv ..) ?_;have hk:∀b ob,eW.get? b=some ob->(eW.push { cls:=.type "traceback",dict:=none,data:=.fields tv }).get? b=some ob:=λb ob e=>aLS _ e;have I2:Inv S.k S.P G σ { s with heap:=eW.push { cls:=.type "traceback",dict:=none,data:=.fields tv } }:=I1.keeps rfl rfl hk;have F2:=F1.keeps hk;have hT:(eW.push { cls:=.type "traceback",dict:=none,data:=.fields tv }).get? eW.objs.size=some { cls:=.type "traceback",dict:=none,data:=.fields tv }:=aL4 _ rfl;have h3:tv[3]? = some (rawInt S.env.locals):=by rw[htv];simp
  refine XW (s:={ s with heap:=eW.push { cls:=.type "traceback",dict:=none,data:=.fields tv } }) I2 F2 hn ha (by decide) (λq=>by cases q) λs' I' F' ⟨o,vs,o',e1,e2,e3,e4,e5⟩ hk' ht'=>?_;have hne:eW.objs.size≠a:=by refine aLJ λaA=>?_;obtain⟨_,_,oa,hoa⟩:=I1.own n _ ha a (aLQ _);exact aA (Nat.ne_of_gt (aL2 hoa))
  refine hQ _ I' F' ⟨o',_,eW.objs.size,e4,e5,by simp[e3],⟨?_,hne,_,tv,hk' _ _ hne hT,rfl,rfl,h3⟩⟩;cases q:S.k.B.get? eW.objs.size with
  |none=>rfl
  |some ob=>exact absurd (aL2 (I1.base _ _ q)) (Nat.lt_irrefl _)
 refine e23 fly λoe vs e1 e2 e3=>?_;refine aA ?_;dsimp only[noteFrame];simp only[hfr];refine aLJ λaA=>?_;rcases e3 with e3|⟨T,oT,ts,e3,e4,e5,e6,e7,e8,e9⟩;.refine aA ?_;refine wpAny_bind (wpAny_field e1 e2 e3 ?_);refine rwl (if_neg (by decide) ..) ?_;exact entry I F
 .refine aA ?_;refine wpAny_bind (wpAny_field e1 e2 e3 ?_);refine rwl (if_pos (show(Value.ref T != Value.none)=true from by simp) ..) ?_;rcases e9 with e9|e9;.refine wpAny_bind (wpAny_field e6 e8 e9 ?_);refine rwl (if_neg (show ¬((Value.none == rawInt S.env.locals)=true) from by simp[rawInt]) ..) ?_;refine wpAny_bind (ND I F ⟨e4,e5,oT,ts,e6,e7,e8,e9⟩ λs' I' F' Z Z=>?_);exact entry I' F'
  .refine wpAny_bind (wpAny_field e6 e8 e9 ?_);refine rwl (if_pos (show((rawInt S.env.locals == rawInt S.env.locals)=true) from by simp) ..) ?_;exact wpAny_pure (hQ s I F ⟨oe,vs,T,e1,e2,e3,e4,e5,oT,ts,e6,e7,e8,e9⟩)
theorem fP{Q:Unit->Shared->Prop}{x3:Value}{fr:Option Addr}(I:Inv S.k S.P G σ s)(F:FR S l G s.heap)(nt:lJ S.k a s.heap x3)(hQ:∀s',Inv S.k S.P G σ s'->FR S l G s'.heap->lJ S.k a s'.heap (fr.elim .none λf=>rawInt f)->Q () s'):wpAny S.k.M S.A (setFlight (.ref a) fr) Q E s:=by
 refine e34 nt λoe vs T e1 e2 e3 t=>?_;unfold setFlight;refine wpAny_bind (wpAny_field e1 e2 e3 ?_);refine rwl (if_pos (show(Value.ref T != Value.none)=true from by simp) ..) ?_;exact ND I F t λs' I' F' t' hk=>hQ s' I' F' ⟨oe,vs,T,hk a oe (aMd t.ne) e1,e2,e3,t'⟩
theorem lJ.fly{k:Kit}{h:Heap}{L:Addr}{x3:Value}(x:lJ k a h x3)(hx:x3=.none\/x3=rawInt L):Fly k L a h:=by
 refine e34 x λoe vs T e1 e2 e3 t=>e24 t.obj λoT ts h1 h2 h3 h4=>bM oe vs e1 e2 (.inr ⟨T,oT,ts,e3,t.base,t.ne,h1,h2,h3,?_⟩);rcases hx with q|q;.exact .inl (q▸h4)
 .exact .inr (q▸h4)
theorem BZ{Q:Unit->Shared->Prop}(ok:S.OK)(hc:S.C.comp=false)(I:Inv S.k S.P G σ s)(F:FR S l G s.heap)(hn:n∈G.excs)(ha:G.φ[n]? = some (a,d))(fly:Fly S.k S.L a s.heap)(hQ:∀s',Inv S.k S.P G σ s'->FR S l G s'.heap->lJ S.k a s'.heap .none->Q () s'):wpAny S.k.M S.A (leaving S.env (.ref a)) Q E s:=by
 unfold leaving;exact wpAny_bind (kP ok hc I F hn ha fly λs' I' F' nt=>fP (fr:=none) I' F' nt hQ)
theorem DG{x3:Value}(ok:S.OK)(hc:S.C.comp=false)(I:Inv S.k S.P G σ s)(F:FR S l G s.heap)(nt:lJ S.k a s.heap x3)(hQ:∀s',Inv S.k S.P G σ s'->FR S l G s'.heap->lJ S.k a s'.heap (rawInt S.L)->Q (.ref a) s'):cameBackBy S.k.M S.A S.env Q (.ref a) s:=by
 refine aLJ λaA=>?_;obtain⟨_,hfe,hfr⟩:S.C.comp=false/\S.fenv=S.env/\S.env.frame=some S.env.locals:=by
  refine aLJ λaA=>?_;rcases ok.mine with q|⟨q,_⟩;.exact aA q
  .rw[hc]at q;cases q
 have hL:S.L=S.env.locals:=by unfold Sit.L;rw[hfe,hfr];rfl
 replace hQ:=(hL)▸hQ;refine e34 (id nt) λoe vs T e1 e2 e3 t=>?_;refine aA ?_;dsimp only[cameBackBy];refine wpAny_bind (wpAny_field e1 e2 e3 ?_);refine rwl (if_neg (by simp) ..) ?_;refine fP I F nt λs' I' F' nt'=>hQ s' I' F' ?_;rw[hfr]at nt';exact nt'
end
noncomputable def Sit.pin(S:Sit)(t:Addr)(o:Obj):Sit:={ S with P:=(t,o)::S.P }
structure Rec(o:Obj):Prop where
 data:∃vs,o.data=.fields vs
 cls:∃n,o.cls=.type n/\n≠"traceback"/\n≠"tuple"/\n≠"range"
theorem Sit.OK.pin{t o}(ok:S.OK):(S.pin t o).OK:=
 ⟨ok.kinds,ok.fn,ok.globals,ok.builtins,ok.frames,ok.frame,ok.fkind,
  ok.mine.imp id (λ⟨q,L,o',h1,h2,h3⟩=>⟨q,L,o',h1,aLM _ h2,h3⟩),
  λe he=>let ⟨h1,L,o',h2,h3,h4⟩:=ok.out e he;⟨h1,L,o',h2,aLM _ h3,h4⟩,ok.handled,ok.room,ok.above,λhc x hx=>e33 (ok.cpin hc x hx) λc o v h1 h2 h3=>⟨c,o,v,h1,aLM _ h2,h3⟩,ok.ndup⟩
theorem Inv.pin{k P G σ}{t:Addr}{o:Obj}(I:Inv k P G σ s)(r:Rec o)(ho:s.heap.get? t=some o)(hB:k.B.get? t=none)(hO:∀(n:Nat) ad,G.φ[n]? = some ad->t∉bD ad):Inv k ((t,o)::P) G σ s:=by
 refine⟨I.g0,I.gens,I.os,I.tk,I.base,λp hp=>?_,λp hp=>?_,λp hp=>?_,I.size,I.few,I.objs,I.full,I.apart,λn ad e x hx=>?_,I.tups,I.rngs,I.excs,I.fz⟩
 .rcases List.mem_cons.mp hp with rfl|hp;.exact⟨o.slots,ho,λZ=>rfl⟩
  .exact I.pins p hp
 .rcases List.mem_cons.mp hp with rfl|hp;.exact hB
  .exact I.pinsB p hp
 .rcases List.mem_cons.mp hp with rfl|hp;.refine e13 r.cls λn h1 h2 Z=>?_;left;rw[h1];intro q;injection q with q;exact h2 q
  .exact I.pinsK p hp
 .refine e03 (I.own n ad e x hx) λh1 h2 h3=>⟨h1,λp hp=>?_,h3⟩;rcases List.mem_cons.mp hp with rfl|hp;.exactλq=>hO n ad e (by dsimp only at q;rw[q];exact hx)
  .exact h2 p hp
theorem Inv.unpin{k P G σ}{p:Addr×Obj}(I:Inv k (p::P) G σ s):Inv k P G σ s:=
 ⟨I.g0,I.gens,I.os,I.tk,I.base,λp hp=>I.pins p (aLM _ hp),λp hp=>I.pinsB p (aLM _ hp),λp hp=>I.pinsK p (aLM _ hp),I.size,I.few,I.objs,I.full,I.apart,
  λn ad e x hx=>e03 (I.own n ad e x hx) λh1 h2 h3=>⟨h1,λp hp=>h2 p (aLM _ hp),h3⟩,I.tups,I.rngs,I.excs,I.fz⟩
theorem Inv.pinned{k P G σ}{t:Addr}{o:Obj}(I:Inv k ((t,o)::P) G σ s)(r:Rec o):s.heap.get? t=some o/\k.B.get? t=none/\∀(n:Nat) ad,G.φ[n]? = some ad->t∉bD ad:=by
 refine aLJ λaA=>e12 (I.pins _ (aLQ _)) λsl h1 h2=>e11 r.data λvs h3=>?_;have:=h2 λes n q=>by dsimp only at q;rw[h3]at q;cases q
 subst this;exact aA ⟨h1,I.pinsB _ (aLQ _),λn ad e hx=>(I.own n ad e t hx).2.1 _ (aLQ _) rfl⟩
theorem FR.pin{l G}{h:Heap}{t:Addr}{o:Obj}(F:FR S l G h)(r:Rec o)(ho:h.get? t=some o):FR (S.pin t o) l G h:=by
 refine e11 r.data λvs hd=>?_;have lo:∀a,Lo S.k S.P G a->t≠a->Lo S.k ((t,o)::S.P) G a:=λa x hne=>⟨x.1,λp hp=>by
  rcases List.mem_cons.mp hp with rfl|hp;.exact hne
  .exact x.2.1 p hp,x.2.2⟩
 refine⟨F.loc,F.cell,lo _ F.lo λq=>?_,λhc x hx=>?_,F.cellInj⟩;.refine e12 F.loc λm yP u29=>e33 yP λo' es ep e hd' u59=>?_;have q':t=S.env.locals:=q;rw[<- q',ho]at e;cases e;rw[hd]at hd';cases hd'
 .refine e23 (F.cellLo hc x hx) λc v h1 h2 h3=>bM c v h1 h2 (lo _ h3 λq=>e12 h2 λo' e hd'=>?_);rw[<- q,ho]at e;cases e;rw[hd]at hd';cases hd'
theorem FR.unpin{l G}{h:Heap}{t:Addr}{o:Obj}(F:FR (S.pin t o) l G h):FR S l G h:=
 ⟨F.loc,F.cell,⟨F.lo.1,λp hp=>F.lo.2.1 p (aLM _ hp),F.lo.2.2⟩,λhc x hx=>e23 (F.cellLo hc x hx) λc v h1 h2 h3=>⟨c,v,h1,h2,h3.1,λp hp=>h3.2.1 p (aLM _ hp),h3.2.2⟩,F.cellInj⟩
section
variable {S:Sit}{G:Gh}
def RL(S:Sit)(G:Gh)(r:RS):Result->Shared->Prop:=λx s=>match x with
 |.ok f=>PS S G r f s
 |.error e=>cameBackBy S.k.M S.A S.env (PSX S G r) e s
theorem KV{r:RS}{x:Value}(ok:S.OK)(hc:S.C.comp=false)(h:PSX S G r x s):notedBy S.k.M S.A S.env (λe s'=>RL S G r (.error e) s') x s:=by refine e68 h λn l σ G' a d h1 h2 h3 h4 oN h6 h7 h8=>rwl oN ?_;dsimp only[notedBy];exact kP ok hc h3 h4 h7 h6 h8 λs' I' F' nt=>DG ok hc I' F' nt λs'' I'' F'' nt'=>JI n l σ G' a d h1 h2 I'' F'' rfl h6 h7 (nt'.fly (.inr rfl))
end
theorem aLw(k:Kit)(n:Nat)(c:CE)(l:Loc)(s:St):(k.ev (n+1)).e c l s=YR k.ft k.gt k.it (k.ev n) c l s:=rfl
theorem aLx(k:Kit)(n:Nat)(b:List CS)(l:Loc)(s:St):(k.ev (n+1)).b b l s=stepB k.ft k.it k.sup (k.ev n) b l s:=rfl
theorem aIL(k:Kit)(n:Nat)(l:Loc)(s:St):(k.ev (n+1)).b [] l s=.ok .next l s:=rfl
theorem xY(k:Kit)(n:Nat)(c:CS)(r:List CS)(l:Loc)(s:St):(k.ev (n+1)).b (c::r) l s=dY ((k.ev n).b r) (stepS k.ft k.it k.sup (k.ev n) c l s):=rfl
theorem VG(k:Kit)(n:Nat)(c:CS)(l:Loc)(s:St)(h:(k.ev (n+1)).b [c] l s≠.stuck):(k.ev (n+1)).b [c] l s=stepS k.ft k.it k.sup (k.ev n) c l s:=by
 rw[xY]at h;refine rwl (xY ..) ?_;cases q:stepS k.ft k.it k.sup (k.ev n) c l s with
 |ok f l' s'=>
  cases f with
  |next=>
   replace h:=(q)▸h;have h':(k.ev n).b [] l' s'≠.stuck:=h;cases n with
   |zero=>exact absurd rfl h'
   |succ n=>rfl
  |cont=>rfl
  |ret v=>rfl
 |exc e l' s'=>rfl
 |stuck=>rfl
theorem QA{r:RS}(h:r.noExc≠.stuck):(∃f l s,r=.ok f l s)/\r.noExc=r:=by
 cases r with
 |ok f l s=>exact⟨⟨f,l,s,rfl⟩,rfl⟩
 |exc e l s=>exact absurd rfl h
 |stuck=>exact absurd rfl h
theorem NI(ih:Ev)(l:Loc)(s:St)(t:CE)(b:List CS):ET ih l s t b=((ih.e t l s).bind tr).noExc.bs l λx s=>sel x (eG (ih.b [.whl t b]) (ih.b b l s).noExc) (.ok .next l s):=rfl
theorem xK{r:RE α}(h:r.noExc≠.stuck):∃a s,r=.ok a s:=by
 cases r with
 |ok a s=>exact⟨a,s,rfl⟩
 |exc e s=>exact absurd rfl h
 |stuck=>exact absurd rfl h
theorem aDA{t:CE}{b:List CS}{body:List Stmt}{pos:Pos}(ok:S.OK)(hc:S.C.comp=false)(n:Nat)(gt:∀m,m<=n->dC S ((S.k.ev m).e t) e)(gb:∀m,m<=n->bT S ((S.k.ev m).b b) (execs body S.env)):
 bT S (λl s=>ET (S.k.ev n) l s t b) (exec (.While e body [] pos) S.env):=by
 intro l G σ s I F H hn;dsimp only at hn|-;refine wpAny_While ?_;refine(?_:codeAny S.k.M S.A (.whileLoop e body [] S.env) (RL S G (ET (S.k.ev n) l σ t b)) s);generalize hr:ET (S.k.ev n) l σ t b=r at hn|-;refine codeAny_whileLoop (λj s'=>j<=n/\∃l' σ' G',G.Le G'/\Inv S.k S.P G' σ' s'/\FR S l' G' s'.heap/\ET (S.k.ev j) l' σ' t b=r) ?_ n ⟨aLO _,l,σ,G,.refl G,I,F,hr⟩;rintro j aO ⟨hj,gF,aG,bB,L1,I1,F1,e1⟩;have H1:=H.mono L1;rw[<- e1]at hn;rw[NI]at hn e1;obtain⟨x,aJ,e2⟩:∃x aJ,((S.k.ev j).e t gF aG).bind tr=.ok x aJ:=xK λq=>hn (by rw[q];rfl);rw[e2]at hn e1;refine wpAny_mono (gt j hj I1 F1 H1 (by dsimp only;rw[e2];intro q;cases q)) (λy bL p=>?_) λy bL p=>?_
 .refine e35 p λv σ' eS q1 L2 I2 F2 aK5=>?_;refine rwr aK5 ?_;dsimp only at q1;replace q1:=(e2)▸q1;refine aLJ λaA=>?_;cases q1;have L12:=L1.trans L2;cases x with
  |false=>have er:RS.ok .next gF aJ=r:=e1;exact aA (rwr (er ..) (wpAny_execs_nil ⟨_,_,_,eS,rfl,L12,I2,F2,.next⟩))
  |true=>
   have hn3:eG ((S.k.ev j).b [.whl t b]) ((S.k.ev j).b b gF aJ).noExc≠.stuck:=hn;have er:eG ((S.k.ev j).b [.whl t b]) ((S.k.ev j).b b gF aJ).noExc=r:=e1;refine e02 (QA (r:=(S.k.ev j).b b gF aJ) λq=>hn3 (by rw[q];rfl)) λgW e3'=>e31 gW λf rG eB e3=>?_;rw[e3',e3]at hn3 er;have go:∀eV bU,G.Le eV->Inv S.k S.P eV eB bU->FR S rG eV bU.heap->(S.k.ev j).b [.whl t b] rG eB≠.stuck->(S.k.ev j).b [.whl t b] rG eB=r->
    ∃m,m<j/\m<=n/\∃l' σ' G',G.Le G'/\Inv S.k S.P G' σ' bU/\FR S l' G' bU.heap/\ET (S.k.ev m) l' σ' t b=r:=λeV bU L3 I3 F3 q1 q2=>by
    refine aLJ λaA=>?_;cases j with
    |zero=>exact absurd rfl q1
    |succ j=>rw[VG _ _ _ _ _ q1]at q2;exact aA ⟨j,Nat.lt_succ_self _,by exact nT hj,rG,eB,eV,L3,I3,F3,q2⟩
   refine aA (wpAny_mono (gb j hj I2 F2 (H.mono L12) (by rw[e3];intro q;cases q)) (λfl bU p=>?_) λy bU p=>?_)
   .refine e45 p λf' l' σ' eV q1 L3 I3 F3 hf=>?_;rw[e3]at q1;refine aLJ λaA=>?_;cases q1;have L13:=L12.trans L3;cases hf with
    |next=>refine aA ?_;exact go eV bU L13 I3 F3 hn3 er
    |cont=>refine aA ?_;exact go eV bU L13 I3 F3 hn3 er
    |ret v=>have er':RS.ok (.ret _) rG eB=r:=er;exact aA (rwr (er' ..) (tY _ _ _ eV rfl L13 I3 F3 (.ret v)))
   .refine e62 p λm l' σ' eV a d q1 Z=>?_;rw[e3]at q1;cases q1
 .refine e52 p λm σ' eV a d q1 Z=>?_;dsimp only at q1;rw[e2]at q1;cases q1
noncomputable def sW(n:String):Bool:=["enumerate","zip","dict_itemiterator","dict_reverseitemiterator","odict_iterator","itertools.zip_longest","itertools.pairwise"].contains n
structure Cur(k:Kit)(A:Around)(G:Gh)(it:Addr)(N:Nat)(av:St->Nat->Option V)(en:St->Prop)(Ot:Nat->Obj->Prop):Prop where
 rc:∀{i o},Ot i o->Rec o/\∃n,o.cls=.type n/\sW n=false
 item:∀{P G' σ}{s:Shared}{i:Nat}{v:V}{Q:Option Value->Shared->Prop}{E:Value->Shared->Prop}{o:Obj},i<N->av σ i=some v->G.Le G'->Inv k P G' σ s->s.heap.get? it=some o->Ot i o->
  (∀x h' tk o',VR G' v x->h'.get? it=some o'->Ot (i+1) o'->Heap.SameBut it s.heap h'->s.toks<=tk->Q (some x) { s with heap:=h',toks:=tk })->wpAny k.M A (pyNext (.ref it)) Q E s
 done:∀{P G' σ}{s:Shared}{Q:Option Value->Shared->Prop}{E:Value->Shared->Prop}{o:Obj},en σ->G.Le G'->Inv k P G' σ s->s.heap.get? it=some o->Ot N o->
  (∀h',Heap.ExtBut it s.heap h'->Q none { s with heap:=h' })->wpAny k.M A (pyNext (.ref it)) Q E s
theorem Wr.pin{x i t o}(w:Wr S x i):Wr (S.pin t o) x i:=⟨w.mem,w.kind⟩
theorem TgR.pin{e tg t o}(r:TgR S e tg):TgR (S.pin t o) e tg:=by
 cases r with
 |n w=>exact .n w.pin
 |t h=>exact .t (h.imp λa b ⟨x,q,e,w⟩=>⟨x,q,e,w.pin⟩)
theorem PSX.unpin{G r x}{t o}(p:PSX (S.pin t o) G r x s):PSX S G r x s:=e65 p λn l σ G' a d h1 h2 h3 h4 h5=>aIz n l σ G' a d h1 h2 h3.unpin h4.unpin h5
theorem PS.unpin{G r x}{t o}(p:PS (S.pin t o) G r x s):PS S G r x s:=e45 p λf l σ G' h1 h2 h3 h4 h5=>tY f l σ G' h1 h2 h3.unpin h4.unpin h5
theorem AU{M:Model}{target:Expr}{it:Addr}{v:Value}{o:Obj}{Q:Unit->Shared->Prop}(ho:s.heap.get? it=some o)(hc:∃n,o.cls=.type n/\sW n=false)(hd:∃vs,o.data=.fields vs)(h:Q () s):
 wpAny M A (letOwnedTupleGo target (.ref it) v) Q E s:=by
 refine e12 hc λn hn hw=>?_;refine e11 hd λvs hv=>?_;have go:wpAny M A (do
  let (.ref r,.ref a):=(Value.ref it,v)|return
  let o <- load r
  match o.cls,o.data with
  |.type n,.fields vs=>
   if ["enumerate","zip","dict_itemiterator","dict_reverseitemiterator","odict_iterator","itertools.zip_longest","itertools.pairwise"].contains n&&vs[0]? == some (rawInt a) then
    rule "for.unpacks-the-owned-tuple"
    updateField r 0 .none
  |_,_=>pure ()) Q E s:=by
  cases v<;>try exact wpAny_pure h
  refine wpAny_bind (wpAny_load ho ?_);refine rwl (hn ..) (rwl (hv ..) ?_);dsimp only;refine rwl (show(["enumerate","zip","dict_itemiterator","dict_reverseitemiterator","odict_iterator","itertools.zip_longest","itertools.pairwise"].contains n)=false from hw ..) ?_;exact wpAny_pure h
 unfold letOwnedTupleGo;cases target<;>first|exact wpAny_pure h|exact go
theorem JE{target:Expr}{tg:Tg}{body:List Stmt}{it:Addr}{uX:Obj}{N:Nat}{av:St->Nat->Option V}{en:St->Prop}{Ot:Nat->Obj->Prop}{fb:Loc->St->RS}{run:Nat->Loc->St->RS}(ok:S.OK)(hs:S.C.hs=false)(hc:S.C.comp=false)(cur:Cur S.k S.A G it N av en Ot)(tr:TgR S target tg)(gb:∀t o,bT (S.pin t o) fb (execs body S.env))(r0:∀l σ,run 0 l σ≠.stuck->en σ/\run 0 l σ=.ok .next l σ)(r1:∀j l σ,j<N->run (j+1) l σ≠.stuck->∃v l',av σ (N-(j+1))=some v/\put l tg v=some l'/\run (j+1) l σ=eG (run j) (fb l' σ))(I:Inv S.k S.P G σ s)(F:FR S l G s.heap)(h0:s.heap.get? it=some uX)(hO:Ot 0 uX)(hB:S.k.B.get? it=none)(hP:∀p∈S.P,p.1≠it)(hown:∀(n:Nat) ad,G.φ[n]? = some ad->it∉bD ad)(hn:run N l σ≠.stuck):
 codeAny S.k.M S.A (.forLoop target (.ref it) body [] S.env) (RL S G (run N l σ)) s:=by
 generalize hr:run N l σ=r at hn|-;refine codeAny_forLoop_any (λj s'=>j<=N/\∃l' σ' G' o,G.Le G'/\Inv S.k S.P G' σ' s'/\FR S l' G' s'.heap/\run j l' σ'=r/\s'.heap.get? it=some o/\Ot (N-j) o/\∀(n:Nat) ad,G'.φ[n]? = some ad->it∉bD ad) ?_ N
  ⟨aLO _,l,σ,G,uX,.refl G,I,F,hr,h0,by rw[Nat.sub_self];exact hO,hown⟩
 rintro j aO ⟨hj,gF,aG,bB,o,L1,I1,F1,e1,ho,hot,hw⟩;have hh:S.A.handled=none:=ok.handled hs;refine e02 (cur.rc hot) λrec0 hcls=>?_;have hn1:run j gF aG≠.stuck:=by rw[e1];exact hn
 have chg:∀{h':Heap}{tk:Nat},(∀b ob,b≠it->aO.heap.get? b=some ob->h'.get? b=some ob)->aO.toks<=tk->Inv S.k S.P bB aG { aO with heap:=h',toks:=tk }/\FR S gF bB h':=λhk ht=>by refine aLJ λaA=>e11 rec0.data λvs hd=>e14 rec0.cls λn q1 q2 q3 q4=>aA ⟨I1.loose (a:=it) ⟨hB,hP,hw,λo' e=>?_⟩ rfl rfl hk ht,F1.but hk ⟨o,vs,ho,hd⟩⟩;rw[ho]at e;cases e;exact⟨.inl (by rw[q1];intro z;injection z with z;exact q3 z),.inl (by rw[q1];intro z;injection z with z;exact q4 z)⟩
 cases j with
 |zero=>obtain⟨hen,e2⟩:=(r0 gF aG hn1);refine cur.done hen L1 I1 ho (by rw[Nat.sub_zero]at hot;exact hot) λh' he=>e02 (chg (h':=h') (tk:=aO.toks) (λb ob hb e=>he b ob hb e) (aLO _)) λI' F'=>wpAny_execs_nil ?_;rw[e2]at e1;exact rwr (e1 ..) (tY _ _ _ bB rfl L1 I' F' .next)
 |succ j=>
  refine e23 (r1 j gF aG (BC hj) hn1) λv l₂ hav hput e2=>?_;rw[e2]at e1 hn1;refine cur.item (aAH hj) hav L1 I1 ho hot λx h' tk o' vx ho' hot' hsb htk=>aLJ λaA=>e02 (chg (h':=h') (tk:=tk) (λb ob hb e=>(hsb.2 b hb).trans e) htk) λI2 F2=>?_;obtain⟨rec',hcls'⟩:=(cur.rc hot');refine aA (AU (s:={ aO with heap:=h',toks:=tk }) ho' hcls' rec'.data ?_);have I3:Inv S.k ((it,o')::S.P) bB aG { aO with heap:=h',toks:=tk }:=I2.pin rec' ho' hB hw;have F3:FR (S.pin it o') gF bB h':=F2.pin rec' ho';refine yV (S:=S.pin it o') ok.pin tr.pin hput hs I3 F3 vx λs' I4 F4=>?_;have nsb:fb l₂ aG≠.stuck:=λq=>hn1 (by rw[q];rfl);refine wpAny_mono (gb it o' I4 F4 (.inl hh) nsb) (λf bU p=>?_) λy bU p=>?_
  .refine e45 p λf' rG eB eV q1 L3 I5 F5 hf=>?_;rw[q1]at e1 hn1;refine aLJ λaA=>e03 (I5.pinned rec') λg1 g2 g3=>?_;have L13:=L1.trans L3;have next:run j rG eB=r->∃m,m<j+1/\m<=N/\∃l' σ' G' o,G.Le G'/\Inv S.k S.P G' σ' bU/\FR S l' G' bU.heap/\run m l' σ'=r/\bU.heap.get? it=some o/\Ot (N-m) o/\∀(n:Nat) ad,G'.φ[n]? = some ad->it∉bD ad:=
    λe=>⟨j,Nat.lt_succ_self _,by exact nT hj,rG,eB,eV,o',L13,I5.unpin,F5.unpin,e,g1,(by rw[show N-j=N-(j+1)+1 by exact aAG hj];exact hot'),g3⟩
   cases hf with
   |next=>refine aA ?_;exact next e1
   |cont=>refine aA ?_;exact next e1
   |ret hv=>have er:RS.ok (.ret _) rG eB=r:=e1;exact aA ((rwr (er ..) (tY _ _ _ eV rfl L13 I5.unpin F5.unpin (.ret hv))):PS S G r (.ret _) bU)
  .refine e68 p λn rG eB eV a d q1 L3 I5 F5 q2 q3 q4 q5=>?_;rw[q1]at e1;have er:RS.exc n rG eB=r:=e1;refine KV ok hc ?_;rw[<- er];exact JI n rG eB eV a d rfl (L1.trans L3) I5.unpin F5.unpin q2 q3 q4 q5
def aDo(a:Addr)(i:Nat)(o:Obj):Prop:=o.cls=.type "tuple_iterator"/\o.data=.fields #[.ref a,.int i 0]
theorem JL{k:Kit}{it a:Addr}{l:List V}(hh:A.handled=none)(h1:(a,xs)∈G.tups)(h2:VRs G l xs)(hne:a≠it):Cur k A G it l.length (λZ i=>nth l i) (λZ=>True) (aDo a) where
 rc:=λh=>⟨⟨⟨_,h.2⟩,_,h.1,by decide,by decide,by decide⟩,_,h.1,by decide⟩
 item:=λ{P G' σ s i v Q E o} hi hav L I ho hot hQ=>e12 (h2.get hav) λx e1 e2=>wpAny_pyNext_tuple_item (i:=i) (x:=x) ⟨o,ho,hot.1,hot.2⟩ (I.tups _ (L.2.1 _ h1)) (by simpa using e1) λh' hit hsb=>e13 hit λo' ho' hc' hd'=>hQ x h' s.toks o' (e2.mono L) ho' ⟨hc',hd'⟩ hsb (aLO _)
 done:=λ{P G' σ s Q E o} Z L I ho hot hQ=>by have hl:=h2.length;exact wpAny_pyNext_tuple_end hh ⟨o,ho,hot.1,hot.2⟩ (I.tups _ (L.2.1 _ h1)) (by simp;exact aAl hl) hQ
def NE(l:List Nat)(t:Tok)(i:Nat)(o:Obj):Prop:=o.cls=.type "str_ascii_iterator"/\o.data=.fields #[.str ⟨l.toArray⟩ t,.int i 0]
theorem JM{k:Kit}{it:Addr}{l:List Nat}{t:Tok}(hh:A.handled=none):Cur k A G it l.length (λZ i=>(l[i]?).map λc=>.str [c]) (λZ=>True) (NE l t) where
 rc:=λh=>⟨⟨⟨_,h.2⟩,_,h.1,by decide,by decide,by decide⟩,_,h.1,by decide⟩
 item:=λ{P G' σ s i v Q E o} hi hav L I ho hot hQ=>by refine e12 (Option.map_eq_some_iff.mp hav) λc e1 e2=>?_;subst e2;exact PySem.wpAny_pyNext_ascii_item (i:=i) (c:=c) ⟨o,ho,hot.1,hot.2⟩ (by simpa using e1) λh' hit hsb=>e13 hit λo' ho' hc' hd'=>hQ _ h' _ o' (.str [c] _ (by simp)) ho' ⟨hc',hd'⟩ hsb (aLV _)
 done:=λ{P G' σ s Q E o} Z L I ho hot hQ=>PySem.wpAny_pyNext_ascii_end hh ⟨o,ho,hot.1,hot.2⟩ (by simp) hQ
def wW(a c:Int)(N i:Nat)(o:Obj):Prop:=o={ cls:=.type "range_iterator",dict:=none,data:=.fields #[rawInt (a+c*i),rawInt ((N:Int)-i),rawInt c],slots:=#[] }
theorem JN{k:Kit}{it:Addr}{a c:Int}{N:Nat}(hh:A.handled=none):Cur k A G it N (λZ i=>if i<N then some (.int (a+c*i)) else none) (λZ=>True) (wW a c N) where
 rc:=λh=>by subst h;exact⟨⟨⟨_,rfl⟩,_,rfl,by decide,by decide,by decide⟩,_,rfl,by decide⟩
 item:=λ{P G' σ s i v Q E o} hi hav L I ho hot hQ=>by
  rw[if_pos hi]at hav;cases hav;subst hot;refine wpAny_pyNext_range_item ho (aF2 hi) λh' hit hsb=>hQ _ h' _ _ (.int _ _) hit ?_ hsb (aLV _);have e1:a+c*(i:Int)+c=a+c*((i+1:Nat):Int):=by push_cast;rw[Int.mul_add,Int.mul_one];exact aKR
  have e2:(N:Int)-i-1=(N:Int)-((i+1:Nat):Int):=by push_cast;exact aG2
  rw[wW,e1,e2]
 done:=λ{P G' σ s Q E o} Z L I ho hot hQ=>by subst hot;exact wpAny_pyNext_range_end hh ho (aFb) hQ
def aBd(a:Addr)(i:Nat)(o:Obj):Prop:=o.cls=.type "list_iterator"/\o.data=.fields #[.ref a,.int i 0]
theorem JO{k:Kit}{it a:Addr}{n N:Nat}{d:Option Addr}(hh:A.handled=none)(h1:G.φ[n]? = some (a,d))(hne:a≠it):
 Cur k A G it N (λσ i=>aP σ n none λl=>nth l i) (λσ=>∃l,σ.h.get n=some (.list l)/\l.length=N) (aBd a) where
 rc:=λh=>⟨⟨⟨_,h.2⟩,_,h.1,by decide,by decide,by decide⟩,_,h.1,by decide⟩
 item:=λ{P G' σ s i v Q E o} hi hav L I ho hot hQ=>aLJ λaA=>e11 (L.1 _ _ _ h1) λd' h2=>e12 (eC hav) λl h3 h4=>e24 (I.list h3 h2) λxs m h5 h6 Z Z=>e12 (h6.get h4) λx e1 e2=>aA (wpAny_pyNext_list_item (i:=i) (x:=x) ⟨o,ho,hot.1,hot.2⟩ (dT.isList ⟨m,h5⟩) (by simpa using e1) λh' hit hsb=>e13 hit λo' ho' hc' hd'=>hQ x h' s.toks o' e2 ho' ⟨hc',hd'⟩ hsb (aLO _))
 done:=λ{P G' σ s Q E o} hen L I ho hot hQ=>by refine aLJ λaA=>e11 (L.1 _ _ _ h1) λd' h2=>?_;obtain⟨l,h3,h4⟩:=hen;refine e24 (I.list h3 h2) λxs m h5 h6 Z Z=>?_;have hl:=h6.length;exact aA (wpAny_pyNext_list_end hh ⟨o,ho,hot.1,hot.2⟩ (dT.isList ⟨m,h5⟩) (by simp;omega) hQ)
theorem aIw(ih:Ev)(tg:Tg)(b:List CS)(l:Loc)(s:St):hM ih tg b [] l s=.ok .next l s:=rfl
theorem pY(ih:Ev)(tg:Tg)(b:List CS)(v:V)(r:List V)(l:Loc)(s:St):hM ih tg b (v::r) l s=eM (put l tg v) λl=>eG (hM ih tg b r) (ih.b b l s):=rfl
theorem fM(ih:Ev)(tg:Tg)(b:List CS)(n i:Nat)(l:Loc)(s:St):fO ih tg b n 0 i l s=aP s n .stuck λls=>sel (Nat.beq (bC ls) i) (.ok .next l s) .stuck:=rfl
theorem gU(ih:Ev)(tg:Tg)(b:List CS)(n k i:Nat)(l:Loc)(s:St):fO ih tg b n (k+1) i l s=aP s n .stuck λls=>eM (nth ls i) λv=>eM (put l tg v) λl=>eG (fO ih tg b n k (i+1)) (ih.b b l s):=((rwl (tW ..) rfl):(aP s n .stuck λls=>eM (nth ls i) λv=>eM (put l tg v) λl=>eG (fN (Nat.succ i) (fO ih tg b n k)) (ih.b b l s))=_)
theorem oR:∀(l:List V) (k:List V->α),fL l k=k l:=by
 intro x9;induction x9 with
 |nil=>intro k;exact rfl
 |cons x l aQ=>intro k;show fL l (λr=>k (x::r))=_;rw[aQ]
theorem qN:∀{l:List Nat}{vs:List V},EP l=some vs->(∀c∈l,c<128)/\vs=l.map λc=>.str [c]:=by
 intro mN;induction mN with
 |nil=>intro vs;intro h;cases h;exact⟨λc hc=>(by cases hc),rfl⟩
 |cons c l aQ=>
  intro vs;intro h;have h':sel (Nat.blt c 128) (Option.rec none (λr=>some (V.str [c]::r)) (EP l)) none=some vs:=h;refine e02 (dN h') λh1 h2=>e12 (bR h2) λr h3 h4=>rwr (aLP h4) (e02 (aQ h3) λh5 h6=>⟨λd hd=>?_,by rw[h6];rfl⟩);rcases List.mem_cons.mp hd with rfl|hd;.exact aC.mp h1
  .exact h5 d hd
theorem sQ(c:Int):∀(n:Nat) (a:Int),(sR c n a).length=n
 |0=>λa=>rfl
 |n+1=>λa=>by show(mkI a::sR c n (Int.add a c)).length=_;rw[List.length_cons,sQ]
theorem AP(c:Int):∀(n:Nat) (a:Int) (i:Nat),nth (sR c n a) i=if i<n then some (.int (a+c*i)) else none:=by
 intro uT;induction uT with
 |zero=>intro a;intro i;rw[if_neg (HX)];rfl
 |succ n aQ=>
  intro a;intro EF;cases EF with
  |zero=>rw[if_pos (aAc)];show some (mkI a)=_;rw[cF];simp
  |succ i=>
   refine((rwl (aQ _ i ..) ?_):nth (sR c n (Int.add a c)) i=_);have e:Int.add a c+c*(i:Int)=a+c*((i+1:Nat):Int):=by show a+c+c*(i:Int)=_;push_cast;rw[Int.mul_add,Int.mul_one];exact aKQ
   by_cases h:i<n;.exact rwl (if_pos h ..) (rwl (if_pos (aAB h) ..) (rwl (e ..) rfl))
   .exact rwl (if_neg h ..) (rwl (if_neg (aFi h) ..) rfl)
theorem qP{a b c:Int}(h:pH a b c=some n):(c=1\/c = -1)/\Builtin.Range.rangeSize a b c=(n:Int):=by
 unfold pH at h;rw[eO]at h;by_cases q:c=1
 .subst q;rw[decide_eq_true rfl]at h;have h':some (sel (ltB a b) (Int.toNat (Int.sub b a)) 0)=some n:=h;refine rwr (aLP h') ⟨.inl rfl,rwl (rangeSize_one ..) (rwl (pO ..) ?_)⟩;by_cases z:a<b;.rw[if_pos z,decide_eq_true z];show _=((b-a).toNat:Int);omega
  .rw[if_neg z,decide_eq_false z];rfl
 .replace h:=(decide_eq_false q)▸h;have h':sel (eqB c (-1)) (some (sel (ltB b a) (Int.toNat (Int.sub a b)) 0)) none=some n:=h;refine e02 (dN h') λh1 h2=>?_;rw[eO]at h1;have h1:=of_decide_eq_true h1;refine rwl h1 (rwr (aLP h2) ⟨.inr rfl,?_⟩);unfold Builtin.Range.rangeSize;refine rwl (pO ..) (rwl (if_neg (by decide) ..) ?_);by_cases z:b<a;.rw[if_pos z,decide_eq_true z];show(a-b-1) / (-(-1))+1=((a-b).toNat:Int);rw[show(-(-1):Int)=1 by decide,Int.ediv_one];omega
  .rw[if_neg z,decide_eq_false z];rfl
theorem dW{x:Int}(h1 : -10000000<x)(h2:x<10000000):Builtin.Range.rangeFitsLong x=true:=by unfold Builtin.Range.rangeFitsLong;simp only[Bool.and_eq_true,decide_eq_true_eq];exact aKP h1 h2
theorem wU{a b c:Int}(ha:a.natAbs<1000000)(hb:b.natAbs<1000000)(hc:c=1\/c = -1)(hn:Builtin.Range.rangeSize a b c=(n:Int))(hl:n<100000):Builtin.Range.small a b c=true:=by
 unfold Builtin.Range.small;refine rwl (hn ..) ?_;rcases hc with rfl|rfl;.rw[dW (VV ha) (OM ha),dW (VV hb) (OM hb),dW (oo2) (by omega),dW (aAd) (ZI hl),if_pos (by decide),dW (aKN hb) (aKK hb),Bool.or_true];rfl
 .rw[dW (VV ha) (OM ha),dW (VV hb) (OM hb),dW (oo1) (oo0),dW (aAd) (ZI hl),if_neg (by decide),dW (aKO hb) (aKL hb),Bool.or_true];rfl
theorem Inv.again{k P G σ}{o:O}(I:Inv k P G σ s)(hn:σ.h.get n=some o):Inv k P G (bE σ n o) s:=by refine e12 (I.objs n o hn) λad h1 h2=>?_;have hlt:n<G.φ.length:=(List.getElem?_eq_some_iff.mp h1).1;have:=I.size;have:=I.few;exact I.setObj hn h1 (by omega) rfl rfl (λb ob Z e=>e) h2 (λb hb=>(I.own n ad h1 b hb).2.2) λhx=>by obtain⟨c,fs,e⟩:=I.excs n hx;rw[hn]at e;cases e;exact⟨c,fs,rfl⟩
structure aIZ(S:Sit)(l:Loc)(G:Gh)(σ:St)(s s':Shared)(o:Obj):Prop where
 inv:Inv S.k S.P G σ s'
 fr:FR S l G s'.heap
 at_:s'.heap.get? s.heap.objs.size=some o
 base:S.k.B.get? s.heap.objs.size=none
 pins:∀p∈S.P,p.1≠s.heap.objs.size
 own:∀(n:Nat) ad,G.φ[n]? = some ad->s.heap.objs.size∉bD ad
 tups:∀t∈G.tups,t.1≠s.heap.objs.size
 refs:∀(n:Nat) a d,G.φ[n]? = some (a,d)->a≠s.heap.objs.size
theorem QB{l G σ}{o:Obj}(I:Inv S.k S.P G σ s)(F:FR S l G s.heap)(hf:o.isFreed=false):aIZ S l G σ s { s with heap:=s.heap.push o } o:=by
 have hk:∀b ob,s.heap.get? b=some ob->(s.heap.push o).get? b=some ob:=λb ob e=>aLS _ e;have lt:∀b ob,s.heap.get? b=some ob->b≠s.heap.objs.size:=λb ob e=>aLT (aL2 e);refine⟨I.keeps rfl rfl hk,F.keeps hk,aL4 _ hf,?_,λp hp=>?_,λn ad e hx=>?_,λt ht=>?_,λn a d e=>?_⟩
 .cases q:S.k.B.get? s.heap.objs.size with
  |none=>rfl
  |some ob=>exact absurd rfl (lt _ _ (I.base _ _ q))
 .obtain⟨sl,e,_⟩:=I.pins p hp;exact lt _ _ e
 .obtain⟨_,_,ob,e2⟩:=I.own n ad e _ hx;exact lt _ _ e2 rfl
 .obtain⟨ob,e,_⟩:=I.tups t ht;exact lt _ _ e
 .obtain⟨_,_,ob,e2⟩:=I.own n _ e a (aLQ _);exact lt _ _ e2
def kY(e:Expr):Bool:=cW (Nat.beq e.ctorIdx 7)
theorem pZ(h:kY e=true)(env:Env)(x:Value):foldedSetIterable e env x=pure x:=by cases e<;>first|rfl|cases h
set_option tactic.hygienic true in
theorem aDD{f:Loc->St->RE V}{a target:Expr}{tg:Tg}{body:List Stmt}{pos:Pos}{ih:Ev}{bc:List CS}(ok:S.OK)(hs:S.C.hs=false)(hc:S.C.comp=false)(ga:aH S f a)(hi:kY a=true)(tr:TgR S target tg)(gb:∀t o,bT (S.pin t o) (λl s=>ih.b bc l s) (execs body S.env)):bT S (λl s=>(f l s).bs l λx s=>vE ih tg bc x l s) (exec (.For target a body [] pos) S.env):=by
 intro l G σ s I F H hn;dsimp only at hn|-;refine wpAny_For ((ga I F H).stepS hn (λZ Z p=>p) λv aG bB y aO e1 n1 L1 I1 F1 V1=>?_) (pZ hi _);refine rwl (e1 ..) ?_;have hh:S.A.handled=none:=ok.handled hs;have fin:∀{it:Value}{r:RS}{s:Shared},codeAny S.k.M S.A (.forLoop target it body [] S.env) (RL S bB r) s->codeAny S.k.M S.A (.forLoop target it body [] S.env) (RL S G r) s:=λh=>codeAny_mono h λx s' p=>by
  cases x with
  |ok f=>exact PS.le L1 p
  |error e=>exact wpAny_mono p (λZ Z q=>PSX.le L1 q) λZ Z q=>PSX.le L1 q
 refine(?_:wpAny S.k.M S.A (pyIter y) (λit bL=>codeAny S.k.M S.A (.forLoop target it body [] S.env) (RL S G (vE ih tg bc v l aG)) bL) (PSX S G (vE ih tg bc v l aG)) aO);have told:∀{vs:List V}{av:St->Nat->Option V}{Ot:Nat->Obj->Prop}{o:Obj},Cur S.k S.A bB aO.heap.objs.size vs.length av (λZ=>True) Ot->(∀σ i,i<vs.length->av σ i=nth vs i)->Ot 0 o->o.isFreed=false->hM ih tg bc vs l aG≠.stuck->
  codeAny S.k.M S.A (.forLoop target (.ref aO.heap.objs.size) body [] S.env) (RL S bB (hM ih tg bc vs l aG)) { aO with heap:=aO.heap.push o }:=by
  intro vs av Ot o cur hav hO hf hns;have N:=QB I1 F1 hf;have:=JE (run:=λj l σ=>hM ih tg bc (vs.drop (vs.length-j)) l σ) ok hs hc cur tr gb (λl σ q=>?_) (λj l σ hj q=>?_) N.inv N.fr N.at_ hO N.base N.pins N.own (by rw[Nat.sub_self];exact hns)
  .try dsimp only at this
   rw[Nat.sub_self]at this;exact this
  .try dsimp only
   rw[Nat.sub_zero,List.drop_length];exact⟨trivial,rfl⟩
  .have e:vs.drop (vs.length-(j+1))=vs[vs.length-(j+1)]'(qV hj)::vs.drop (vs.length-j):=by refine rwl (List.drop_eq_getElem_cons (qV hj) ..) ?_;congr 2;omega
   rw[e,pY]at q;refine rwl (e ..) (rwl (pY ..) ?_);refine e12 (jM q) λl' h1 h2=>?_;refine bM _ l' ?_ h1 h2;exact rwl (hav _ _ (qV hj) ..) (rwl (fA ..) (rwl (aLN (qV hj) ..) rfl))
 unfold vE at n1|-;split at n1
 .rename_i n;refine V1.ref_el λad d h1=>?_;refine e12 (cO n1) λls h2 e2=>?_;rw[e2,oR]at n1;refine rwl (e2 ..) (rwl (oR ..) ?_);refine e24 (I1.list h2 h1) λxs m h3 Z Z Z=>?_;refine wpAny_pyIter_list (dT.isList ⟨m,h3⟩) (fin ?_);have N:=QB (o:={ cls:=.type "list_iterator",data:=.fields #[.ref ad,.int 0 0] }) I1 F1 rfl;rw[aD]at n1;refine rwl (aD ..) ?_;have:=JE (run:=λj l σ=>fO ih tg bc n j (ls.length-j) l σ) ok hs hc (JO (N:=ls.length) hh h1 (N.refs _ _ _ h1)) tr gb (λl σ q=>?_) (λj l σ hj q=>?_) (N.inv.again h2) N.fr N.at_ ⟨rfl,rfl⟩ N.base N.pins N.own (by rw[Nat.sub_self];exact n1)
  .try dsimp only at this
   rw[Nat.sub_self]at this;exact this
  .try dsimp only at q|-
   rw[Nat.sub_zero,fM]at q;refine rwl (Nat.sub_zero ..) (rwl (fM ..) ?_);refine e12 (cO q) λls' h4 e4=>?_;rw[e4]at q;refine rwl (e4 ..) ?_;cases z:Nat.beq (bC ls') ls.length with
   |true=>exact⟨⟨ls',h4,by rw[<- aD];exact aLU z⟩,rfl⟩
   |false=>rw[z]at q;exact absurd rfl q
  .try dsimp only at q|-
   rw[gU]at q;refine rwl (gU ..) ?_;refine e12 (cO q) λls' h4 e4=>?_;rw[e4]at q|-;refine e12 (jM q) λv' h5 e5=>?_;rw[e5]at q;refine rwl (e5 ..) ?_;refine e12 (jM q) λl' h6 e6=>?_;refine rwl (e6 ..) ?_;refine bM v' l' ?_ h6 (by rw[show ls.length-(j+1)+1=ls.length-j by exact aAy hj]);unfold aP;rw[h4];exact h5
 .rename_i hnr;refine e12 (jM n1) λvs h2 e2=>?_;replace n1:=(e2)▸n1;refine rwl (e2 ..) ?_;cases v with
  |tup l=>obtain rfl:=aLP h2;refine V1.tup_el λad xs h3 h4 Z=>?_;have N:=QB (o:={ cls:=.type "tuple_iterator",data:=.fields #[.ref ad,.int 0 0] }) I1 F1 rfl;exact wpAny_pyIter_tuple (I1.tups _ h3) (fin (told (JL hh h3 h4 (N.tups _ h3)) (λZ Z Z=>rfl) ⟨rfl,rfl⟩ rfl n1))
  |str lc=>
   refine V1.str_el λt Z=>e02 (qN h2) λh5 h6=>?_;subst h6;have hall:(⟨lc.toArray⟩:Str).cps.all (· < 128)=true:=by rw[Array.all_eq_true'];intro c hc';exact decide_eq_true (h5 c (by simpa using hc'))
   refine PySem.wpAny_pyIter_ascii hall (fin (told (av:=λZ i=>(lc[i]?).map λc=>.str [c]) (Ot:=NE lc t) ?_ (λZ i hi=>?_) ⟨rfl,rfl⟩ rfl n1));.rw[aLX];exact JM hh
   .exact rwl (fA ..) (rwl (aL8 ..) rfl)
  |rng x y' z=>
   refine aLJ λaA=>e12 V1.rng_inv λt aE h3=>?_;subst aE;refine e02 (dN h2) λh4 h5=>e02 (dN h5) λh6 h7=>e12 (bR h7) λn h8 h9=>?_;obtain⟨h10,h11⟩:=(dN h9);obtain rfl:=aLP h11;obtain⟨hz,hsz⟩:=(qP h8);refine e31 (I1.rngs _ h3) λt1 t2 t3 hr=>?_;have hlim:n<100000:=aC.mp h10;refine aA (wpAny_pyIter_range hr (wU (aC.mp h4) (aC.mp h6) hz hsz hlim) (fin (told (av:=λZ i=>if i<n then some (.int (x+z*i)) else none) (Ot:=wW x z n) ?_ (λZ i hi=>?_) ?_ rfl n1)));.rw[sQ];exact JN hh
   .exact rwl (AP ..) rfl
   .rw[wW,hsz];simp
  |_=>exact bV h2
theorem Inv.pinAny{k P G σ}{t:Addr}{o:Obj}(I:Inv k P G σ s)(ho:s.heap.get? t=some o)(hB:k.B.get? t=none)(hO:∀(n:Nat) ad,G.φ[n]? = some ad->t∉bD ad)(hk:o.cls≠.type "traceback"\/∀vs,o.data≠.fields vs):Inv k ((t,o)::P) G σ s:=by
 refine⟨I.g0,I.gens,I.os,I.tk,I.base,λp hp=>?_,λp hp=>?_,λp hp=>?_,I.size,I.few,I.objs,I.full,I.apart,λn ad e x hx=>?_,I.tups,I.rngs,I.excs,I.fz⟩
 .rcases List.mem_cons.mp hp with rfl|hp;.exact⟨o.slots,ho,λZ=>rfl⟩
  .exact I.pins p hp
 .rcases List.mem_cons.mp hp with rfl|hp;.exact hB
  .exact I.pinsB p hp
 .rcases List.mem_cons.mp hp with rfl|hp;.exact hk
  .exact I.pinsK p hp
 .refine e03 (I.own n ad e x hx) λh1 h2 h3=>?_;refine⟨h1,λp hp=>?_,h3⟩;rcases List.mem_cons.mp hp with rfl|hp;.exactλq=>hO n ad e (by dsimp only at q;rw[q];exact hx)
  .exact h2 p hp
theorem Inv.unpins{k P G σ}:∀{X:List (Addr×Obj)},Inv k (X++P) G σ s->Inv k P G σ s
 | []=>λI=>I
 |_::X=>λI=>Inv.unpins (X:=X) (Inv.unpin I)
theorem Inv.pinData{k P G σ}(I:Inv k P G σ s){c:Addr}{o ob:Obj}(h:(c,o)∈P)(e:s.heap.get? c=some ob):ob.data=o.data:=by refine e12 (I.pins _ h) λsl e' Z=>?_;rw[e]at e';cases e';rfl
theorem FR.holdC{l G σ}(ok:S.OK)(I:Inv S.k S.P G σ s)(F:FR S l G s.heap):
 ∃X:List (Addr×Obj),Inv S.k (X++S.P) G σ s/\(∃o,(S.env.locals,o)∈X/\∃es n,o.data=.dict es n)/\(∀x,S.C.kinds.lookup x=some .cell->∃c o v,S.env.cells.lookup x=some c/\(c,o)∈X++S.P/\o.data=.cell v)/\
  ∀G' σ' s',G.Le G'->Inv S.k (X++S.P) G' σ' s'->Inv S.k S.P G' σ' s'/\FR S l G' s'.heap:=by
 have cells:∀xs:List Str,(∀x∈xs,S.C.kinds.lookup x=some .cell)->∃X:List (Addr×Obj),Inv S.k (X++S.P) G σ s/\
  ∀x∈xs,∃c o v,S.env.cells.lookup x=some c/\(c,o)∈X++S.P/\o.data=.cell v:=by
  intro xs;induction xs with
  |nil=>exactλZ=>⟨[],I,λx hx=>(by cases hx)⟩
  |cons x xs ih=>
   intro hx;refine e12 (ih λy hy=>hx y (aLM _ hy)) λX I' h1=>?_;cases hc:S.C.comp with
   |true=>exact⟨X,I',λy hy=>e33 (ok.cpin hc y (hx y hy)) λc o v q1 q2 q3=>CW c o v q1 (List.mem_append_right _ q2) q3⟩
   |false=>
    refine e23 (F.cellLo hc x (hx x (aLQ _))) λc v q1 AH q4=>e12 AH λo q2 q3=>⟨(c,o)::X,I'.pinAny q2 q4.1 q4.2.2 (.inr λvs q=>by rw[q3]at q;cases q),λy hy=>aLJ λaA=>?_⟩;rcases List.mem_cons.mp hy with rfl|hy;.exact aA (CW c o v q1 (aLQ _) q3)
    .exact e33 (h1 y hy) λc' o' v' r1 r2 r3=>aA (CW c' o' v' r1 (aLM _ r2) r3)
 refine aLJ λaA=>?_;refine e12 F.loc λm yP hm'=>?_;refine e33 yP λoL es ep hL hd hrest=>?_;refine aA ?_;refine aLJ λaA=>?_;obtain⟨X,I',hX⟩:=cells ((S.C.kinds.map (·.1)).filter λx=>S.C.kinds.lookup x == some .cell) λx hx=>by have:=(List.mem_filter.mp hx).2;exact eq_of_beq this
 have hX':∀x,S.C.kinds.lookup x=some .cell->∃c o v,S.env.cells.lookup x=some c/\(c,o)∈X++S.P/\o.data=.cell v:=λx hx=>
  hX x (List.mem_filter.mpr ⟨List.mem_map.mpr ⟨_,mem_of_lookup hx,rfl⟩,by rw[hx];rfl⟩)
 have I'':Inv S.k ((S.env.locals,oL)::(X++S.P)) G σ s:=I'.pinAny hL F.lo.1 F.lo.2.2 (.inr λvs q=>by rw[hd]at q;cases q);refine aA ?_;refine JJ ((S.env.locals,oL)::X) I'' (⟨oL,aLQ _,es,ep,hd⟩) (λx hx=>e33 (hX' x hx) λc o v q1 q2 q3=>⟨c,o,v,q1,aLM _ q2,q3⟩) (λG' σ' s' hG J=>⟨J.unpins,?_⟩);have lo':∀a o,(a,o)∈(S.env.locals,oL)::(X++S.P)->Lo S.k S.P G a->Lo S.k S.P G' a:=λa o ha q=>⟨q.1,q.2.1,λn ad e hx=>(J.own n ad e a hx).2.1 _ ha rfl⟩;refine⟨⟨m,?_,λx i v h1 h2 h3=>?_⟩,λx i v h1 h2 h3=>?_,lo' _ oL (aLQ _) F.lo,λhc x hx=>?_,F.cellInj⟩;.refine e12 (J.pins _ (aLQ _)) λsl e Z=>?_;exact CW _ es ep e hd hrest
 .obtain⟨y,h4,h5⟩:=hm' x i v h1 h2 h3;exact⟨y,h4,h5.mono hG⟩
 .refine e23 (F.cell x i v h1 h2 h3) λc y h4 AH h7=>?_;refine aLJ λaA=>?_;obtain⟨o,h5,h6⟩:=AH;refine e33 (hX' x h2) λc' o' v' q1 q2 q3=>?_;rw[h4]at q1;cases q1;have e1:=I'.pinData q2 h5;refine e12 (J.pins _ (aLM _ q2)) λsl e Z=>?_;exact aA (bM c y h4 (⟨_,e,by rw[<- h6,e1]⟩) (h7.mono hG))
 .refine e23 (F.cellLo hc x hx) λc v h4 AH h7=>?_;refine aLJ λaA=>?_;obtain⟨o,h5,h6⟩:=AH;refine e33 (hX' x hx) λc' o' v' q1 q2 q3=>?_;rw[h4]at q1;cases q1;have e1:=I'.pinData q2 h5;refine e12 (J.pins _ (aLM _ q2)) λsl e Z=>?_;exact aA (bM c v h4 (⟨_,e,by rw[<- h6,e1]⟩) (lo' c o' (aLM _ q2) h7))
theorem FR.hold{l G σ}(ok:S.OK)(I:Inv S.k S.P G σ s)(F:FR S l G s.heap):
 ∃X:List (Addr×Obj),Inv S.k (X++S.P) G σ s/\(∃o,(S.env.locals,o)∈X/\∃es n,o.data=.dict es n)/\∀G' σ' s',G.Le G'->Inv S.k (X++S.P) G' σ' s'->Inv S.k S.P G' σ' s'/\FR S l G' s'.heap:=
 e14 (F.holdC ok I) λX h1 h2 u39 h3=>⟨X,h1,h2,h3⟩
set_option tactic.hygienic true in
theorem yF:∀(names:List (Str×NameKind)) (n:Nat) (acc:List (Str×Addr)) (x:Str),((x,NameKind.cell)∈names\/(acc.lookup x).isSome=true)->((cellsFrom n names acc).lookup x).isSome=true:=by
 intro rE;induction rE with
 |nil=>
  intro n acc x h;rcases h with h|h;.exact False.elim (by cases h)
  .exact h
 |cons uT r aQ=>
  obtain⟨y,kd⟩:=uT;intro n acc x h;dsimp only[cellsFrom];split
  .refine aQ _ _ x ?_;rcases h with h|h
   .rcases List.mem_cons.mp h with e|h
    .cases e;right;simp
    .exact .inl h
   .right;refine rwl (List.lookup_cons ..) ?_;split;.rfl
    .exact h
  .rename_i hk;refine aQ _ _ x ?_;rcases h with h|h
   .rcases List.mem_cons.mp h with e|h
    .cases e;exact absurd rfl hk
    .exact .inl h
   .exact .inr h
theorem yG{kindOf:Str->Option NameKind}{x:Str}{v:Value}(hk:kindOf x=some .local):∀(b:List (Str×Value)) (m:Str->Option Value),(b.map (·.1)).Nodup->(x,v)∈b\/(m x=some v/\x∉b.map (·.1))->bindL kindOf b m x=some v:=by
 intro EF;induction EF with
 |nil=>
  intro m _ h;rcases h with h|h;.exact False.elim (by cases h)
  .exact h.1
 |cons EE r aQ=>
  obtain⟨y,u⟩:=EE;intro m hn h;rw[List.map_cons,List.nodup_cons]at hn;dsimp only[bindL];refine aQ _ hn.2 ?_;rcases h with h|⟨h,h'⟩
  .rcases List.mem_cons.mp h with e|h
   .cases e;right;exact⟨by rw[if_pos hk];simp,hn.1⟩
   .exact .inl h
  .right;simp only[List.map_cons,List.mem_cons,not_or]at h';refine⟨?_,h'.2⟩;split;.simp only[if_neg h'.1];exact h
   .exact h
theorem yH{kindOf:Str->Option NameKind}{x:Str}{v:Value}(hk:kindOf x≠some .local):∀(b:List (Str×Value)) (m:Str->Option Value),(b.map (·.1)).Nodup->(x,v)∈b\/(m x=some v/\x∉b.map (·.1))->bindC kindOf b m x=some v:=by
 intro MZ;induction MZ with
 |nil=>
  intro m _ h;rcases h with h|h;.exact False.elim (by cases h)
  .exact h.1
 |cons v79 r aQ=>
  obtain⟨y,u⟩:=v79;intro m hn h;rw[List.map_cons,List.nodup_cons]at hn;dsimp only[bindC];refine aQ _ hn.2 ?_;rcases h with h|⟨h,h'⟩
  .rcases List.mem_cons.mp h with e|h
   .cases e;right;exact⟨by rw[if_neg hk];simp,hn.1⟩
   .exact .inl h
  .right;simp only[List.map_cons,List.mem_cons,not_or]at h';refine⟨?_,h'.2⟩;split;.exact h
   .simp only[if_neg h'.1];exact h
structure FnI where
 a:Addr
 fd:FuncData
 body:List Stmt
 par:List Str
 names:List (Str×Nat)
 rank:Nat
noncomputable def FnI.cx(f:FnI)(hs:Bool):Cx:={ names:=f.names,kinds:=f.fd.scope.names,comp:=false,hs:=hs,rank:=f.rank }
structure wG(k:Kit)(f:FnI)(c:Fn):Prop where
 obj:∃oc od sl,k.K.lookup f.a=some ⟨oc,od,.func f.fd,sl⟩
 code:codeIn k.K f.fd.code f.fd.qualname=true
 body:f.fd.body=.stmts f.body
 clo:f.fd.closure=[]
 glob:f.fd.globals=mainGlobals
 built:f.fd.builtins=builtinsNs
 kind:f.fd.scope.kind=.function
 co:f.fd.scope.isCoroutine=false
 gen:f.fd.scope.isGenerator=false
 bind:∀vals,vals.length=c.npar->bindArgs f.fd ⟨vals,[]⟩=pure (f.par.zip vals)
 npar:f.par.length=c.npar
 mem:∀i x,f.par[i]? = some x->(x,i)∈f.names
 parN:f.par.Nodup
 parK:∀x∈f.par,f.fd.scope.names.lookup x=some .local\/f.fd.scope.names.lookup x=some .cell
 ndup:(f.names.map (·.1)).Nodup/\(f.names.map (·.2)).Nodup
theorem wM{vs:List V}{n i:Nat}{v:V}(h:nth (app (iK some vs) (rF n)) i=some (some v)):vs[i]? = some v:=by
 have e1:∀l:List V,iK some l=l.map some:=λl=>by
  induction l with
  |nil=>rfl
  |cons x l ih=>show some x::iK some l=_;rw[ih];rfl
 have e2:∀n,rF n=List.replicate n none:=λn=>by
  induction n with
  |zero=>rfl
  |succ n ih=>show none::rF n=_;rw[ih];rfl
 rw[fA,cI,e1,e2]at h;rcases Nat.lt_or_ge i (vs.map some).length with q|q;.rw[aL9 q,aL8]at h;refine e12 (Option.map_eq_some_iff.mp h) λw h1 h2=>?_;cases h2;exact h1
 .replace h:=(List.getElem?_replicate)▸(aMa q)▸h;split at h<;>cases h
theorem VRs.at{l:List V}(h:VRs G l xs){i:Nat}{v:V}(e:l[i]? = some v):∃x,xs[i]? = some x/\VR G v x:=h.get (by rw[fA];exact e)
theorem TR{ih:Ev}{f:Fn}{vs:List V}(h:aR ih f vs σ≠.stuck):vs.length=f.npar/\aR ih f vs σ=(ih.b f.body (app (iK some vs) (rF (Nat.sub f.nloc f.npar))) σ).out/\
 ih.b f.body (app (iK some vs) (rF (Nat.sub f.nloc f.npar))) σ≠.stuck:=by
 unfold aR at h|-;refine e03 (bA h) λh1 h2 h3=>?_;refine⟨by rw[<- aD];exact aLU h1,h2,λq=>h3 (by rw[q];rfl)⟩
theorem qB{l G σ}{f:FnI}{c:Fn}{ih:Ev}{vs:List V}{A':Around}(ok:S.OK)(K:bX S.k)(fo:wG S.k f c)(hb:∀S':Sit,S'.k=S.k->S'.C=f.cx S.C.hs->S'.OK->bT S' (λl s=>ih.b c.body l s) (execs f.body S'.env))(hA1:A'.handled=S.A.handled)(hA2:A'.frames=S.A.frames)(hd1:A'.depth+1+3*f.rank<990)(hd2:A'.units+3+20*f.rank<9800)(I:Inv S.k S.P G σ s)(F:FR S l G s.heap)(H:dL S.A G)(hv:VRs G vs xs)(hn:aR ih c vs σ≠.stuck):
 codeAny S.k.M A' (.call (.ref f.a) ⟨xs,[]⟩) (λr s'=>match r with|.ok (.ret v)=>PQ S l G (aR ih c vs σ) v s'|.ok _=>False|.error e=>PX S l G (aR ih c vs σ) e s') s:=by
 refine aLJ λaA=>?_;refine e03 (TR hn) λhlen hcf hns=>?_;refine e31 fo.obj λoc od sl hobj=>?_;have KX:=K.frag.keeps I.base;have hxs:xs.length=c.npar:=by rw[<- hv.length];exact hlen
 refine aA ?_;have hzip:(f.par.zip xs).map (·.1)=f.par:=by rw[List.map_fst_zip];rw[fo.npar,hxs];exact aLO _
 have hpar:∀x∈f.par.zip xs,x.1∈f.par:=λx hx=>by rw[<- hzip];exact List.mem_map.mpr ⟨x,hx,rfl⟩
 have hcellmem:∀x n,f.fd.scope.names.lookup x=some .cell->((cellsFrom n f.fd.scope.names []).lookup x).isSome=true:=λx n h=>yF _ _ _ _ (.inl (mem_of_lookup h));refine codeAny_call_function (by rw[show recursionLimit=1000 from rfl];exact aGH hd1) (KX _ _ hobj) rfl fo.co fo.gen fo.body (codeRec_of KX fo.code) ?_;refine rwl (fo.bind xs hxs ..) (rwl (fo.clo ..) ?_);have hkind:∀x∈f.par.zip xs,f.fd.scope.names.lookup x.1=some .local\/(f.fd.scope.names.lookup x.1=some .cell/\((cellsFrom (s.heap.objs.size+1) f.fd.scope.names []).lookup x.1).isSome=true):=λx hx=>by
  rcases fo.parK x.1 (hpar x hx) with q|q;.exact .inl q
  .exact .inr ⟨q,hcellmem _ _ q⟩
 refine wpAny_pure (wpAny_mono (wpAny_toks_of (n:=s.toks) (aLO _) (wpAny_newFunctionEnv_cells (Q:=λenv s'=>env=callEnvC f.fd s.heap.objs.size f.a/\
  InCallC s env.locals (bindL env.kindOf (f.par.zip xs) λZ=>none) env.cells (bindC env.kindOf (f.par.zip xs) λZ=>none) s') fo.kind hkind λenv he s' x=>⟨he,x⟩)) (λenv aO p=>?_) λZ Z p=>p.2)
 obtain⟨htk,aE,X⟩:=p;subst aE;refine⟨(K.nolimit.keeps I.base).keeps X.toInCall.keep,codeAny_func ?_⟩;refine aLJ λaA=>?_;refine e13 (F.hold ok I) λP' I' t29 back=>?_;refine e12 t29 λoL hoL hdL=>?_;refine aA ?_
 let env:=callEnvC f.fd s.heap.objs.size f.a
 let S':Sit:={ k:=S.k,C:=f.cx S.C.hs,env:=env,fenv:=env,outer:=S.fenv::S.outer,A:=A'.deeper env,P:=P'++S.P }
 have ok':S'.OK:=by
  refine⟨rfl,fo.kind,fo.glob,fo.built,?_,rfl,?_,.inl ⟨rfl,rfl,rfl⟩,λe he=>?_,λq=>hA1.trans (ok.handled q),⟨?_,?_⟩,?_,λq=>(by cases q),fo.ndup⟩;.refine(?_:(A'.frames.map (env::·))=_);rw[hA2,ok.frames];rfl
  .refine(?_:env.scope.kind≠.module);rw[show env.scope.kind=f.fd.scope.kind from rfl,fo.kind];decide
  .rcases List.mem_cons.mp he with rfl|he
   .refine⟨ok.fkind,(aLJ λaA=>?_)⟩;rcases ok.mine with⟨q1,q2,q3⟩|⟨q1,L,o,q2,q3,q4⟩;.exact aA (bM S.env.locals oL (by rw[q2];exact q3) (List.mem_append_left _ hoL) hdL)
    .exact aA (bM L o q2 (List.mem_append_right _ q3) q4)
   .obtain⟨q1,L,o,q2,q3,q4⟩:=ok.out e he;exact⟨q1,L,o,q2,List.mem_append_right _ q3,q4⟩
  .exact hd1
  .exact hd2
  .exact((e12 F.loc λm yP u29=>e32 yP λo es ep e u49=>aL3 (aL0 ok.above (aL2 e))):S.k.B.objs.size<=s.heap.objs.size)
 have fresh:∀a:Addr,s.heap.objs.size<=a->s.heap.get? a=none:=λa ha=>by
  cases q:s.heap.get? a with
  |none=>rfl
  |some o=>exact absurd (aL2 q) (Nat.not_lt.mpr ha)
 have lo':∀a:Addr,s.heap.objs.size<=a->Lo S.k (P'++S.P) G a:=λa ha=>by
  refine⟨?_,λp hp e=>?_,λn ad e hx=>?_⟩
  .cases q:S.k.B.get? a with
   |none=>rfl
   |some o=>have:=I.base _ _ q;rw[fresh a ha]at this;cases this
  .obtain⟨sl,q,_⟩:=I'.pins p hp;rw[e,fresh a ha]at q;cases q
  .obtain⟨_,_,o,q⟩:=I.own n ad e a hx;rw[fresh a ha]at q;cases q
 refine e21 X.toInCall.same λeW aDp rB=>?_;have J:Inv S'.k S'.P G σ aO:=I'.keeps (by rw[rB]) (by rw[rB]) X.toInCall.keep htk;have zip_mem:∀(i:Nat) x y,f.par[i]? = some x->xs[i]? = some y->(x,y)∈f.par.zip xs:=λi x y h1 h2=>by refine List.mem_iff_getElem?.mpr ⟨i,?_⟩;rw[List.getElem?_zip_eq_some];exact⟨h1,h2⟩
 have parOf:∀x i v,(x,i)∈f.names->nth (app (iK some vs) (rF (Nat.sub c.nloc c.npar))) i=some (some v)->∃y,(x,y)∈f.par.zip xs/\VR G v y:=λx i v h1 h2=>by
  have h3:=wM h2;refine e12 (hv.at h3) λy h4 h5=>?_;have hi:i<f.par.length:=by rw[fo.npar,<- hxs];exact(List.getElem?_eq_some_iff.mp h4).1
  have h6:f.par[i]? = some f.par[i]:=aLN hi;have h7:=gS fo.ndup.2 (fo.mem i _ h6) h1;exact⟨y,zip_mem i x y (h7▸h6) h4,h5⟩
 have hnd:((f.par.zip xs).map (·.1)).Nodup:=by rw[hzip];exact fo.parN
 have F':FR S' (app (iK some vs) (rF (Nat.sub c.nloc c.npar))) G aO.heap:=by
  refine⟨⟨_,X.toInCall.ns,λx i v h1 h2 h3=>?_⟩,λx i v h1 h2 h3=>?_,lo' _ (aLO _),λZ x hx=>?_,λZ x y cc h1 h2 h3 h4=>?_⟩;.exact e12 (parOf x i v h1 h3) λy h4 h5=>⟨y,yG h2 _ _ hnd (.inl h4),h5⟩
  .refine e12 (parOf x i v h1 h3) λy h4 h5=>?_;obtain⟨cc,hcc⟩:=(Option.isSome_iff_exists.mp (hcellmem x (s.heap.objs.size+1) h2));have h6:=X.cell x cc hcc;rw[yH (v:=y) (λq=>by have q':f.fd.scope.names.lookup x=some .local:=q;rw[show f.fd.scope.names.lookup x=some .cell from h2]at q';cases q') _ _ hnd (.inl h4)]at h6;exact bM cc y hcc h6 h5
  .obtain⟨cc,hcc⟩:=(Option.isSome_iff_exists.mp (hcellmem x (s.heap.objs.size+1) hx));have h6:=X.cell x cc hcc;have h7:=X.above x cc (mem_of_lookup hcc);exact bM cc _ hcc h6 (lo' cc (aL3 h7))
  .exact name_of_addr X.apart (mem_of_lookup h3) (mem_of_lookup h4)
 have H':dL S'.A G:=by
  refine aLJ λaA=>?_;rcases H with q|⟨n,a,d,q1,q2,q3⟩;.exact aA (.inl (hA1.trans q))
  .exact aA (.inr ⟨n,a,d,hA1.trans q1,q2,q3⟩)
 refine wpAny_mono (hb S' rfl rfl ok' J F' H' hns) (λfl bL p=>?_) λe bL p=>?_
 .refine e45 p λfl' l' σ' G' h1 h2 h3 h4 h5=>?_;dsimp only at h1;rw[h1]at hcf;refine aLJ λaA=>?_;refine e02 (back G' σ' bL h2 h3) λb1 b2=>?_;cases h5 with
  |next=>refine aA ?_;exact⟨.none,σ',G',hcf,h2,b1,b2,.none⟩
  |cont=>exact absurd hcf hn
  |ret v=>refine aA ?_;exact⟨_,σ',G',hcf,h2,b1,b2,v⟩
 .refine e68 p λn l' σ' G' a d h1 h2 h3 h4 oN h6 h7 h8=>?_;refine rwl oN ?_;dsimp only at h1;rw[h1]at hcf;refine BZ (S:=S') (l:=l') ok' rfl h3 h4 h7 h6 h8 λbU J3 F3 nt=>?_;refine e02 (back G' σ' bU h2 J3) λb1 b2=>?_;exact aIA n σ' G' a d hcf h2 b1 b2 rfl h6 h7 (nt.fly (.inl rfl))
theorem DF{l G σ}{f:FnI}{c:Fn}{ih:Ev}{vs:List V}(ok:S.OK)(K:bX S.k)(fo:wG S.k f c)(hb:∀S':Sit,S'.k=S.k->S'.C=f.cx S.C.hs->S'.OK->bT S' (λl s=>ih.b c.body l s) (execs f.body S'.env))(hr:f.rank<S.C.rank)(I:Inv S.k S.P G σ s)(F:FR S l G s.heap)(H:dL S.A G)(hv:VRs G vs xs)(hn:aR ih c vs σ≠.stuck):
 codeAny S.k.M S.A (.call (.ref f.a) ⟨xs,[]⟩) (λr s'=>match r with|.ok (.ret v)=>PQ S l G (aR ih c vs σ) v s'|.ok _=>False|.error e=>PX S l G (aR ih c vs σ) e s') s:=by
 have h1:=ok.room.depth;have h2:=ok.room.units;exact qB ok K fo hb rfl rfl (aHv hr h1) (aHw hr h2) I F H hv hn
section
variable {S:Sit}{pos:Pos}
theorem cQ{M:Model}{env:Env}{f:Value}{args:List Expr}{Q:Args->Shared->Prop}(hp:∀e∈args,bJ e=true)(h:wpAny M A (spliced (backTo pos (starEach args env))) (λvs s'=>Q ⟨vs,[]⟩ s') E s):wpAny M A (evalArgs f true (backTo pos (starEach args env)) []) Q E s:=by
 cases args with
 |nil=>unfold evalArgs;exact wpAny_bind (wpAny_mono h (λvs s' h'=>wpAny_bind (wpAny_pure (wpAny_holding (wpAny_bind (wpAny_pure (wpAny_bind (wpAny_pure (wpAny_pure h')))))))) λZ Z x=>x)
 |cons e rest=>rw[cD (hp e (aLQ _))]at h;exact rwl (cD (hp e (aLQ _)) ..) (PySem.Calls.evalArgs_plain h)
theorem dX{env:Env}:∀{args:List Expr},(∀e∈args,bJ e=true)->(backTo pos (starEach args env)).any (·.1)=false
 | []=>λZ=>rfl
 | e::r=>λh=>by refine rwl (cD (h e (aLQ _)) ..) (?_:(false||(backTo pos (starEach r env)).any (·.1))=false);rw[dX λe' he=>h e' (aLM _ he)];rfl
theorem ML{α β:Type}{R:α->β->Prop}{p:α->Prop}(h:∀a b,R a b->p a){l r}(q:cU R l r):∀a∈l,p a:=by
 induction q with
 |nil=>exactλa ha=>absurd ha List.not_mem_nil
 |cons x r ih=>exact List.forall_mem_cons.mpr ⟨h _ _ x,ih⟩
theorem eH{ih:Ev}(ge:cU (λe c=>bJ e=true/\aH S (ih.e c) e) es cs):∀e∈es,bJ e=true:=ML (λZ Z h=>h.1) ge
theorem aCK{ih:Ev}{x:Str}{p':Pos}{f:FnI}{c:Fn}(ok:S.OK)(K:bX S.k)(fo:wG S.k f c)(hb:∀S':Sit,S'.k=S.k->S'.C=f.cx S.C.hs->S'.OK->bT S' (λl s=>ih.b c.body l s) (execs f.body S'.env))(hr:f.rank<S.C.rank)(hx:S.k.mg x=some (.ref f.a))(hk:S.C.kinds.lookup x=some .globalImplicit)(hd:(x == ("__debug__" : Str))=false)(ge:cU (λe c=>bJ e=true/\aH S (ih.e c) e) es cs):aH S (λl s=>(evs ih l cs s).bind (aR ih c)) (.Call (.Name x p') es [] pos):=by
 intro l G σ s I F H hn;dsimp only at hn|-;refine Call_ (gT ok K I hk hx hd ?_);refine e31 fo.obj λoc od sl hobj=>?_;refine callWith_function (o:=⟨oc,od,.func f.fd,sl⟩) (fd:=f.fd) (cQ (eH ge) ((mI ge I F H).step hn (λZ Z p=>p) λvs aG bB xs aO e1 n1 L1 I1 F1 V1=>⟨⟨K.frag.keeps I1.base _ _ hobj,rfl⟩,?_⟩));refine rwl (e1 ..) ?_;refine wpAny_call (codeAny_mono (DF ok K fo hb hr I1 F1 (H.mono L1) V1 n1) λr s' q=>?_)
 match r,q with
 |.ok (.ret v),q=>exact PG.le L1 q
 |.error e,q=>exact PX.le L1 q
end
noncomputable def biV:BI->Value
 |.len=>.builtin "len"|.range=>.type "range"|.str=>.type "str"|.sorted=>.builtin "sorted"
noncomputable def TW:BI->Bool|.sorted=>false|_=>true
theorem VA(n:Nat)(h:n<100):∃l,sM (.ofNat n)=some l/\Str.ofString (toString (Int.ofNat n))=⟨l.toArray⟩/\l.length<=2:=by
 have key:∀n:_root_.Fin 100,(sM (.ofNat n)).any (λl=>Str.ofString (toString (Int.ofNat n)) == ⟨l.toArray⟩&&Nat.ble l.length 2)=true:=by decide +kernel
 have:=key ⟨n,h⟩;dsimp only at this;cases q:sM (.ofNat n) with
 |none=>rw[q]at this;cases this
 |some l=>rw[q]at this;simp only[Option.any_some,Bool.and_eq_true]at this;exact⟨l,rfl,eq_of_beq this.1,aLK this.2⟩
theorem pF{i:Int}{l:List Nat}(h:sM i=some l):i.natAbs<100/\0<=i/\Str.ofString (toString i)=⟨l.toArray⟩/\l.length<=2:=by
 refine aLJ λaA=>?_;cases i with
 |negSucc n=>cases h
 |ofNat n=>
  have hn:n<100:=by
   rcases Nat.lt_or_ge n 100 with q|q;.exact q
   .exfalso;dsimp only[sM]at h;have e1:Nat.blt n 10=false:=by cases z:Nat.blt n 10 with|false=>rfl|true=>have:=aC.mp z;exact aEi q this
    have e2:Nat.blt n 100=false:=by cases z:Nat.blt n 100 with|false=>rfl|true=>have:=aC.mp z;exact aEh q this
    simp only[e1,e2]at h;cases h
  refine e13 (VA n hn) λl' h1 h2 h3=>?_;rw[h]at h1;cases h1;exact aA (SW hn (by simp) h2 h3)
section
variable {S:Sit}{dA:Loc}{G:Gh}{σ:St}{s:Shared}
theorem nP{a b c:Int}{t u v:Tok}{k:Nat}(I:Inv S.k S.P G σ s)(F:FR S dA G s.heap)(hk0:s.toks<=k):
 PQ S dA G (.ok (.rng a b c) σ) (.ref s.heap.objs.size) { s with heap:=s.heap.push { cls:=.type "range",data:=.fields #[.int a t,.int b u,.int c v] },toks:=k }:=by
 have hk:∀x ob,s.heap.get? x=some ob->(s.heap.push { cls:=.type "range",data:=.fields #[.int a t,.int b u,.int c v] }).get? x=some ob:=λb ob e=>aLS _ e;have I':Inv S.k S.P G σ { s with heap:=s.heap.push { cls:=.type "range",data:=.fields #[.int a t,.int b u,.int c v] },toks:=k }:=I.keeps rfl rfl hk;exact fH _ _ (G.rng s.heap.objs.size a b c) rfl (G.le_rng _ _ _ _) (I'.rng (IsRange.new _ _ _ _ _ _ _)) ((F.keeps hk).rng _ _ _ _) (.rng (aLQ _))
theorem VRs.one{a:V}(h:VRs G [a] xs):∃x,xs=[x]/\VR G a x:=by cases h with|cons p q=>cases q;exact⟨_,rfl,p⟩
theorem VRs.two{a b:V}(h:VRs G [a,b] xs):∃x y,xs=[x,y]/\VR G a x/\VR G b y:=by cases h with|cons p q=>obtain⟨y,rfl,r⟩:=q.one;exact⟨_,_,rfl,p,r⟩
theorem VRs.three{a b c:V}(h:VRs G [a,b,c] xs):∃x y z,xs=[x,y,z]/\VR G a x/\VR G b y/\VR G c z:=by cases h with|cons p q=>obtain⟨y,z,rfl,r,t⟩:=q.two;exact⟨_,_,_,rfl,p,r,t⟩
theorem aC1{b:BI}{vs:List V}(hb:TW b=true)(I:Inv S.k S.P G σ s)(F:FR S dA G s.heap)(hv:VRs G vs xs):dJ S dA G (bi b vs σ) (call (biV b) xs) s:=by
 intro hn;cases b with
 |len=>
  refine e12 (mJ hn) λv aE h=>?_;subst aE;refine e12 hv.one λx aE hx=>?_;subst aE;have h:aBv v σ≠.stuck:=h;cases v with
  |ref n=>
   have e0:bi .len [.ref n] σ=aP σ n .stuck λl=>.ok (mkI (.ofNat (bC l))) σ:=rfl;rw[e0]at hn;refine rwl (e0 ..) (hx.ref_el λa d h1=>e12 (cO hn) λls h2 e=>rwl (e ..) (e24 (I.list h2 h1) λys m h3 h4 h5 Z=>?_));have hl:=h4.length;refine len_list (items:=ys.toArray) (dT.isList ⟨m,h3⟩) (by simp;exact OI h5 hl) (rwl (cF ..) (rwl (aD ..) (rwl (hl ..) ?_)));have e2:(Int.ofNat ys.length)=((ys.toArray.size:Nat):Int):=by simp
   exact rwl (e2 ..) (fY I F)
  |str l=>have e0:bi .len [.str l] σ=.ok (mkI (.ofNat (bC l))) σ:=rfl;rw[e0]at hn|-;exact hx.str_el λt h1=>PySem.P.len_str (by rw[bI];exact ZG h1) (rwl (cF ..) (rwl (aD ..) (rwl (bI ..) (fY I F))))
  |frz l=>
   have e0:bi .len [.frz l] σ=.ok (mkI (.ofNat (bC l))) σ:=rfl;rw[e0]at hn|-;refine hx.frz_el λa ys h1 h4 h5=>?_;have hl:=h4.length;refine len_list (items:=ys.toArray) ((I.fz _ h1).at λo e=>I.base _ _ e) (by simp;exact OI h5 hl) ?_;rw[cF,aD,hl];have e2:(Int.ofNat ys.length)=((ys.toArray.size:Nat):Int):=by simp
   rw[e2];exact fY I F
  |_=>exact absurd rfl h
 |range=>
  rcases vs with _|⟨v,vs⟩;.exact absurd rfl hn
  refine e12 (nJ hn) λa aE h=>?_;subst aE;rcases vs with _|⟨v,vs⟩;.have e0:bi .range [.int a] σ=.ok (.rng 0 a 1) σ:=rfl;exact rwl (e0 ..) (e12 hv.one λx aE hx=>rwl aE (hx.int_el λt=>call_range_1 (nP I F (OA))))
  refine e12 (nJ h) λb aE h2=>?_;subst aE;clear h;rcases vs with _|⟨v,vs⟩;.have e0:bi .range [.int a,.int b] σ=.ok (.rng a b 1) σ:=rfl;rw[e0];refine e23 hv.two λx y bF hx hy=>rwl bF (hx.int_el λt=>?_);obtain⟨u,aE⟩:=hy.int_inv;exact rwl aE (call_range_2 (nP I F (aEj)))
  refine e12 (nJ h2) λc aE h3=>?_;subst aE;clear h2;refine e02 (UF h3) λzF h4=>?_;subst zF;clear h3;have e0:bi .range [.int a,.int b,.int c] σ=sel (eqB c (-1)) (.ok (.rng a b c) σ) .stuck:=rfl;rw[e0]at hn|-;refine e34 hv.three λx y z fK hx hy hz=>rwl fK (e11 hx.int_inv λt aE=>rwl aE ?_);obtain⟨u,aE⟩:=hy.int_inv;refine rwl aE ?_;obtain⟨v,aE⟩:=hz.int_inv;refine rwl aE (e03 (bA hn) λh1 e Z=>?_);rw[e];rw[eO]at h1;have h1:=of_decide_eq_true h1;exact rwl h1 (call_range_3 (by decide) (nP I F (aLO _)) (Or.inl (PyProof.noPylong_small (by decide))))
 |str=>refine e12 (mJ hn) λv aE h=>?_;subst aE;refine e12 (nJ h) λi aE h2=>?_;subst aE;clear h;have e0:bi .str [.int i] σ=ofO σ (Option.rec none (λl=>some (.str l)) (sM i)):=rfl;rw[e0]at hn|-;refine e12 hv.one λx aE hx=>?_;subst aE;refine e11 hx.int_inv λt aE=>?_;subst aE;refine aLJ λaA=>e12 (mR hn) λv h1 h2=>aA (rwl (h2 ..) (aLJ λaA=>e12 (bR h1) λls h3 h4=>?_));obtain rfl:=aLP h4;refine e04 (pF h3) λh5 h6 h7 h8=>aA (PySem.P.str_of_int (aL0 (Nat.log2_le_self _) (OD h5)) ?_);have e:(↑(toString i):Str)=⟨ls.toArray⟩:=h7;rw[e];exact dJ.done I.toks F (.str _ _ (ZF h8))
 |sorted=>cases hb
end
theorem lE{M:Model}{b:BI}{env:Env}{pos:Pos}{args:List Expr}(hp:∀e∈args,bJ e=true)(h:wpAny M A (spliced (backTo pos (starEach args env))) (λvs s'=>wpAny M A (call (biV b) vs) Q E s') E s):wpAny M A (callWith pos (biV b) [] (backTo pos (starEach args env)) []) Q E s:=by
 cases b<;>first|exact callWith_builtin (dX hp) (cQ hp h)|exact PyProof.Rows.callWith_type (dX hp) (cQ hp h)
theorem aK8{pos:Pos}{b:BI}{ih:Ev}{x:Str}{p':Pos}(ok:S.OK)(K:bX S.k)(hb:TW b=true)(hk:S.C.kinds.lookup x=some .globalImplicit)(hg:S.k.mg x=none)(hx:S.k.mb x=some (biV b))(hd:(x == ("__debug__" : Str))=false)(ge:cU (λe c=>bJ e=true/\aH S (ih.e c) e) es cs):aH S (λl s=>(evs ih l cs s).bind (bi b)) (.Call (.Name x p') es [] pos):=by
 intro l G σ s I F H hn;dsimp only at hn|-;refine Call_ (jP ok K I hk hg hx hd (lE (eH ge) ((mI ge I F H).step hn (λZ Z p=>p) λvs aG bB xs aO e1 n1 L1 I1 F1 V1=>?_)));refine rwl (e1 ..) ?_;exact(aC1 hb I1 F1 V1).post n1 L1
theorem aBR:(sS.all λp=>PySem.Txt.replace ⟨p.1.toArray⟩ ⟨p.2.1.toArray⟩ ⟨p.2.2.toArray⟩ == (⟨(wY p.2.1 p.2.2 (Nat.succ (bC p.1)) p.1).toArray⟩:Str))=true:=by decide +kernel
theorem xR(a b c:List Nat):∀t:List (List Nat×List Nat×List Nat),(List.rec false (λp Z ih=>Bool.rec ih true (sel (eqS p.1 a) (sel (eqS p.2.1 b) (eqS p.2.2 c) false) false)) t:Bool)=true->(a,b,c)∈t:=by
 intro x9;induction x9 with
 |nil=>intro h;cases h
 |cons p t aQ=>
  intro h;have ih:=aQ;have h':(Bool.rec (List.rec false (λp Z ih=>Bool.rec ih true (sel (eqS p.1 a) (sel (eqS p.2.1 b) (eqS p.2.2 c) false) false)) t:Bool) true (sel (eqS p.1 a) (sel (eqS p.2.1 b) (eqS p.2.2 c) false) false):Bool)=true:=h;rw[bQ,bQ,bQ]at h';by_cases q1:p.1=a
  .by_cases q2:p.2.1=b
   .by_cases q3:p.2.2=c;.subst q1 q2 q3;exact aLQ _
    .rw[decide_eq_true q1,decide_eq_true q2,decide_eq_false q3]at h';exact aLM _ (ih h')
   .rw[decide_eq_true q1,decide_eq_false q2]at h';exact aLM _ (ih h')
  .rw[decide_eq_false q1]at h';exact aLM _ (ih h')
theorem AR{a b c:List Nat}(h:xS a b c=true):Txt.replace ⟨a.toArray⟩ ⟨b.toArray⟩ ⟨c.toArray⟩=⟨(wY b c (Nat.succ (bC a)) a).toArray⟩:=by have:=List.all_eq_true.mp aBR _ (xR a b c sS h);exact eq_of_beq this
theorem mX(c x:Nat)(l:List Nat)(n:Nat):rD c (x::l) n=if x=c then (Int.ofNat n) else rD c l (n+1):=by
 refine(?_:(Bool.rec (rD c l (n+1)) (Int.ofNat n) (Nat.beq x c):Int)=_);cases h:Nat.beq x c with
 |true=>rw[if_pos (aLU h)]
 |false=>rw[if_neg λe=>by rw[e,Nat.beq_refl]at h;cases h]
theorem GG{c:Nat}:∀{l:List Nat}{n:Nat},(∀i:Nat,l[i]?≠some c)->rD c l n = -1:=by
 intro mN;induction mN with
 |nil=>intro n;intro _;exact rfl
 |cons x l aQ=>intro n;intro h;exact rwl (mX ..) (rwl (if_neg λe=>h 0 (by simp[e]) ..) (aQ λi=>by simpa using h (i+1)))
theorem GF{c:Nat}:∀{l:List Nat}{n i:Nat},l[i]? = some c->(∀k:Nat,k<i->l[k]?≠some c)->rD c l n=((n+i:Nat):Int):=by
 intro rE;induction rE with
 |nil=>intro n;intro i;intro h;intro _;simp at h
 |cons x l aQ=>
  intro n;intro uT;cases uT with
  |zero=>intro h;intro _;rw[mX,if_pos (by simpa using h)];simp
  |succ i=>intro h;intro h';refine rwl (mX ..) (rwl (if_neg λe=>h' 0 (aAc) (by simp[e]) ..) ?_);rw[aQ (i:=i) (by simpa using h) λk hk=>by simpa using h' (k+1) (aAB hk)];congr 1;exact OP
theorem XU(c:Nat)(l:List Nat):Txt.find ⟨l.toArray⟩ ⟨[c].toArray⟩=rD c l 0:=by
 have at_:∀i:Nat,StrLaws.At ⟨l.toArray⟩ ⟨#[c]⟩ (⟨l.toArray⟩:Str).length i<->l[i]? = some c:=λi=>by have:=StrLaws.subAt_one ⟨l.toArray⟩ c i;simpa [StrLaws.At] using this
 unfold Txt.find;refine aLJ λaA=>?_;rcases StrLaws.occ_head ⟨l.toArray⟩ ⟨#[c]⟩ 1 (aLO _) with⟨h,h'⟩|⟨i,r,h,h1,h2⟩;.exact aA (rwl (show([c].toArray) = #[c] from rfl ..) (rwl (h ..) ((GG λi q=>h' i ((at_ i).mpr q)).symm)))
 .refine aA ?_;simp only[show([c].toArray) = #[c] from rfl,h];have:=GF (n:=0) ((at_ i).mp h1) λk hk q=>h2 k hk ((at_ k).mpr q);rw[this];simp
noncomputable def J(c:Nat):List (List Nat)->List Nat
 | []=>[]
 | [p]=>p
 |p::q::r=>p++c::J c (q::r)
theorem YC{c:Nat}:∀{p q X Y:List Nat},c∉p->c∉q->p++c::X=q++c::Y->p=q/\X=Y:=by
 intro EF;induction EF with
 |nil=>
  intro EE;cases EE with
  |nil=>intro X;intro Y;intro _;intro _;intro h;exact⟨rfl,by simpa using h⟩
  |cons b q=>intro X;intro Y;intro _;intro hq;intro h;simp at h;exact absurd (by rw[h.1];exact aLQ _) hq
 |cons a p aQ=>
  intro MZ;cases MZ with
  |nil=>intro X;intro Y;intro hp;intro _;intro h;simp at h;exact absurd (by rw[h.1];exact aLQ _) hp
  |cons b q=>intro X;intro Y;intro hp;intro hq;intro h;simp only[List.cons_append,List.cons.injEq]at h;exact e02 (aQ (λq'=>hp (aLM _ q')) (λq'=>hq (aLM _ q')) h.2) λh1 h2=>⟨by rw[h.1,h1],h2⟩
theorem aI0{c:Nat}{P:List (List Nat)}:∀{Q:List (List Nat)},P≠[]->Q≠[]->(∀p∈P,c∉p)->(∀q∈Q,c∉q)->J c P=J c Q->P=Q:=by
 induction P with
 |nil=>intro Q h;exact absurd rfl h
 |cons p r ih=>
  intro Q Z hQ hp hq h;cases Q with
  |nil=>exact absurd rfl hQ
  |cons q t=>
   cases r with
   |nil=>
    cases t with
    |nil=>have:p=q:=h;rw[this]
    |cons q' t=>have h':p=q++c::J c (q'::t):=h;exact absurd (by rw[h'];simp) (hp p (aLQ _))
   |cons p' r=>
    cases t with
    |nil=>have h':p++c::J c (p'::r)=q:=h;exact absurd (by rw[<- h'];simp) (hq q (aLQ _))
    |cons q' t=>refine e02 (YC (hp p (aLQ _)) (hq q (aLQ _)) (h:p++c::J c (p'::r)=q++c::J c (q'::t))) λh1 h2=>?_;exact rwl (h1 ..) (rwl (ih (Q:=q'::t) (List.cons_ne_nil _ _) (List.cons_ne_nil _ _) (λx hx=>hp x (aLM _ hx)) (λx hx=>hq x (aLM _ hx)) h2 ..) rfl)
noncomputable def cY(c:Nat):List Nat->List Nat->List (List Nat)
 | [],acc=>[acc.reverse]
 |x::l,acc=>if x=c then acc.reverse::cY c l [] else cY c l (x::acc)
theorem NM:∀(l a:List Nat),rev l a=l.reverse++a:=by
 intro x9;induction x9 with
 |nil=>intro a;exact rfl
 |cons x l aQ=>intro a;show rev l (x::a)=_;rw[aQ];simp
theorem wO(c:Nat):∀(l acc:List Nat),sO c l acc=(cY c l acc).map V.str:=by
 intro x9;induction x9 with
 |nil=>intro acc;show [V.str (rev acc [])]=_;rw[NM];simp[cY]
 |cons x l aQ=>
  intro acc;show(Bool.rec (sO c l (x::acc)) (.str (rev acc [])::sO c l []) (Nat.beq x c):List V)=_;dsimp only[cY];cases h:Nat.beq x c with
  |true=>rw[if_pos (aLU h),NM,aQ []];simp
  |false=>rw[if_neg λe=>by rw[e,Nat.beq_refl]at h;cases h];exact aQ _
theorem wN(c:Nat):∀(l acc:List Nat),cY c l acc≠[]:=by
 intro x9;induction x9 with
 |nil=>intro acc;simp[cY]
 |cons x l aQ=>
  intro acc;dsimp only[cY];split;.simp
  .exact aQ _
set_option tactic.hygienic true in
theorem sN(c:Nat):∀(l acc:List Nat),J c (cY c l acc)=acc.reverse++l:=by
 intro x9;induction x9 with
 |nil=>intro acc;simp[cY,J]
 |cons x l aQ=>
  intro acc;dsimp only[cY];split
  .rename_i h;have ih:=aQ [];cases q:cY c l [] with
   |nil=>exact absurd q (wN c l [])
   |cons p r=>refine(?_:acc.reverse++c::J c (p::r)=_);rw[<- q,ih,h];simp
  .rw[aQ (x::acc)];simp
set_option tactic.hygienic true in
theorem AJ(c:Nat):∀(l acc:List Nat),c∉acc->∀p∈cY c l acc,c∉p:=by
 intro x9;induction x9 with
 |nil=>intro acc h p hp;simp only[cY,List.mem_singleton]at hp;subst hp;simpa using h
 |cons x l aQ=>
  intro acc h p hp;dsimp only[cY]at hp;split at hp
  .rcases List.mem_cons.mp hp with rfl|hp;.simpa using h
   .exact aQ [] (by simp) p hp
  .rename_i hx;exact aQ (x::acc) (by simp;exact⟨λe=>hx e.symm,h⟩) p hp
theorem aCy(c:Nat)(parts:List Str):(Str.join ⟨#[c]⟩ parts).cps.toList=J c (parts.map λp=>p.cps.toList):=by
 induction parts with
 |nil=>rfl
 |cons p r ih=>
  cases r with
  |nil=>rfl
  |cons q r=>refine((rwr (ih ..) (?_:(p.cps++#[c]++(Str.join ⟨#[c]⟩ (q::r)).cps).toList=_)):(p++⟨#[c]⟩++Str.join ⟨#[c]⟩ (q::r)).cps.toList=p.cps.toList++c::J c ((q::r).map λp=>p.cps.toList));simp
theorem NG(x y:Str):Txt.split x y≠[]:=by
 unfold Txt.split;split;.simp
 .split;.simp
  .refine rwl (StrLaws.partsBetween_eq ..) (e21 (StrLaws.partsFrom_ne x y.length 0 (Builtin.Str.occurrences x y 0 x.length (x.length+1))) λp r e=>?_);rw[e];simp
theorem AI(c:Nat)(l:List Nat):Txt.split ⟨l.toArray⟩ ⟨[c].toArray⟩=(cY c l []).map bS:=by
 have h1:=StrLaws.split_free ⟨l.toArray⟩ c;have h2:=StrLaws.join_split ⟨l.toArray⟩ ⟨#[c]⟩;have h3:=congrArg (λs:Str=>s.cps.toList) h2;dsimp only at h3;rw[aCy]at h3;have h4:(Txt.split ⟨l.toArray⟩ ⟨#[c]⟩).map (λp=>p.cps.toList)=cY c l []:=by
  refine aI0 (c:=c) (by simpa using NG _ _) (wN _ _ _) (λp hp=>?_) (λq hq=>AJ c l [] (by simp) q hq) ?_;.exact e12 (List.mem_map.mp hp) λp' hp' bF=>rwr bF (h1 p' hp')
  .rw[h3,sN];simp
 refine rwl (show [c].toArray = #[c] from rfl ..) (rwr (h4 ..) (rwl (List.map_map ..) ?_));have:(bS ∘ λp:Str=>p.cps.toList)=id:=by funext p;simp[bS]
 exact rwl (this ..) (rwl (List.map_id ..) rfl)
theorem WH:∀c,BY c=true->Unicode.lowerOf c=[FL c]/\(c == 0x3A3)=false:=by
 intro c h;have:c=46\/c=82\/c=75:=by
  unfold BY at h;refine aLJ λaA=>?_;cases h1:Nat.beq c 46 with
  |true=>refine aA ?_;exact .inl (aLU h1)
  |false=>
   rw[h1]at h;cases h2:Nat.beq c 82 with
   |true=>refine aA ?_;exact .inr (.inl (aLU h2))
   |false=>rw[h2]at h;exact aA (.inr (.inr (aLU h)))
 rcases this with rfl|rfl|rfl<;>exact⟨by decide +kernel,by decide⟩
theorem gC{p:α->Bool}:∀{l:List α},gR p l=true->∀x∈l,p x=true:=by
 intro aBO;induction aBO with
 |nil=>intro _ x hx;cases hx
 |cons y l aQ=>
  intro h x hx;have h':(Bool.rec false (gR p l) (p y):Bool)=true:=h;cases q:p y with
  |false=>rw[q]at h';cases h'
  |true=>
   rw[q]at h';rcases List.mem_cons.mp hx with rfl|hx;.exact q
   .exact aQ h' x hx
theorem IT{α β:Type}(f:α->β):∀l:List α,iK f l=l.map f:=by
 intro x9;induction x9 with
 |nil=>exact rfl
 |cons x l aQ=>show f x::iK f l=_;rw[aQ];rfl
theorem SP(f:Nat->α):∀l:List Nat,((l.map λc=>#[f c]).toArray.flatten).toList=l.map f:=by
 intro x9;induction x9 with
 |nil=>simp
 |cons x l aQ=>have ih:=aQ;simp only[List.map_cons];simp at ih|-;exact ih
theorem BX{l:List Nat}(h:gR BY l=true):Txt.lower ⟨l.toArray⟩=⟨(iK FL l).toArray⟩:=by
 have hm:=gC h;delta Txt.lower PySem.placed;congr 1;have e:(l.toArray.mapIdx λi Z=>(Unicode.lowerAt l.toArray i).toArray)=(l.map λc=>#[FL c]).toArray:=by
  apply Array.ext;.simp
  .intro i h1 h2;have hi:i<l.length:=by simpa using h1
   refine e02 (WH _ (hm l[i] (aMc hi))) λq1 q2=>?_;have:Unicode.lowerAt l.toArray i=[FL l[i]]:=by unfold Unicode.lowerAt;rw[show l.toArray[i]? = some l[i] by simp[hi]];dsimp only;exact rwl (q2 ..) (rwl (Bool.false_and ..) (rwl (if_neg Bool.false_ne_true ..) (rwl (q1 ..) rfl)))
   simp[this]
 apply Array.toList_inj.mp;exact rwl (e ..) (rwl (SP ..) (rwl (IT ..) rfl))
theorem FS{sep:List Nat}{l:List V}{r:List Nat}(h:xN sep l=some r)(hl:VRs G l xs):
 ∃ts:List (Str×Tok),xs=strValues ts/\Str.join ⟨sep.toArray⟩ (ts.map (·.1))=⟨r.toArray⟩/\(((ts.map (·.1)).map (·.length)).sum+ts.length*sep.length<=r.length+sep.length):=by
 revert r;induction hl using VRs.ind with
 |nil=>intro r h;cases h;exact⟨[],rfl,rfl,by simp⟩
 |@cons v x l xs hv hl ih=>
  intro r h;cases v with
  |str x=>
   refine hv.str_el λt hx=>aLJ λaA=>?_;cases l with
   |nil=>cases hl;have h':some x=some r:=h;cases h';exact aA ⟨[(⟨r.toArray⟩,t)],rfl,rfl,by simp[Str.length]⟩
   |cons v' l'=>
    have h':(Option.rec none (λy=>some (app x (app sep y))) (xN sep (v'::l')):Option (List Nat))=some r:=h;refine e12 (bR h') λy h1 h2=>?_;obtain rfl:=aLP h2;refine e13 (ih h1) λts h3 h4 h5=>aA ⟨(⟨x.toArray⟩,t)::ts,by rw[h3];rfl,?_,?_⟩
    .cases ts with
     |nil=>exfalso;cases hl;cases h3
     |cons q ts=>refine(?_:(⟨x.toArray⟩:Str)++⟨sep.toArray⟩++Str.join ⟨sep.toArray⟩ ((q::ts).map (·.1))=_);simp only[h4,kL,kL,cI,cI];simp
    .simp only[List.map_cons,List.sum_cons,List.length_cons,bI,cI,aMe]at h5|-;rw[Nat.succ_mul];exact aKC h5
  |_=>cases h
theorem WU{sep:List Nat}{ts:List Str}{r:List Nat}(h:Str.join ⟨sep.toArray⟩ ts=⟨r.toArray⟩):Txt.join ⟨sep.toArray⟩ ts=⟨r.toArray⟩:=by unfold Txt.join;rw[StrLaws.glued_eq_join];exact h
section
variable {S:Sit}{dA:Loc}{G:Gh}{σ:St}{s:Shared}{E:Value->Shared->Prop}
theorem VF{r:List V}(h:iR σ n r≠.stuck):r.length<100000/\iR σ n r=.ok .none (bE σ n (.list r)):=by unfold iR at h|-;refine e03 (bA h) λh1 h2 Z=>?_;have:=aC.mp h1;rw[aD]at this;exact⟨this,h2⟩
theorem pG{l r:List V}{a:Addr}{d:Option Addr}{ys:List Value}{h':Heap}{k m:Nat}(I:Inv S.k S.P G σ s)(F:FR S dA G s.heap)(hn:σ.h.get n=some (.list l))(ha:G.φ[n]? = some (a,d))(hr:VRs G r ys)(hns:iR σ n r≠.stuck)(hsb:Heap.SameBut a s.heap h')(hat:h'.get? a=some (dZ ys m))(hk:s.toks<=k):PQ S dA G (iR σ n r) .none { s with heap:=h',toks:=k }:=by
 refine e02 (VF hns) λh1 h2=>?_;refine rwl (h2 ..) ?_;refine aLJ λaA=>?_;refine e24 (I.list hn ha) λxs m' h3 h4 h5 mW=>?_;subst mW;obtain⟨I',F'⟩:=rU (s':={ s with heap:=h',toks:=k }) (o':=.list r) I F hn ha (aLQ _) hsb ⟨_,h3,λv q=>(by cases q)⟩ ⟨_,hat⟩ rfl rfl hk
  ⟨rfl,ys,⟨m,hat⟩,hr,by exact AY h1⟩ (λhx=>by obtain⟨c,fs,e⟩:=I.excs _ hx;rw[hn]at e;cases e)
 exact aA (dJ.done I' F' .none)
theorem pN{h:Heap}{a:Addr}{xs ys:List Value}{m:Nat}{f:Array Value->Array Value}(ho:h.get? a=some (dZ xs m))(hf:f xs.toArray=ys.toArray):
 Heap.SameBut a h (h.update a (Obj.mapSeq f))/\∃m',(h.update a (Obj.mapSeq f)).get? a=some (dZ ys m'):=by
 refine⟨Heap.SameBut.update ..,if ys.toArray.size == xs.toArray.size then m else m+1,?_⟩;.refine rwl (Heap.get?_update_self _ ho (by unfold Obj.mapSeq;rfl) ..) ?_;delta Obj.mapSeq dZ;dsimp only;exact rwl (hf ..) rfl
theorem CK:∀(l:List V) (i:Nat) (v:V),tO v l i=l.take i++v::l.drop i:=by
 intro mN;induction mN with
 |nil=>intro i;intro v;simp;rfl
 |cons x l aQ=>
  intro rE;cases rE with
  |zero=>intro v;exact rfl
  |succ i=>intro v;show x::tO v l i=_;rw[aQ i v];simp
theorem VRs.app'{l xs l' xs'}(h:VRs G l xs)(r:VRs G l' xs'):VRs G (l++l') (xs++xs'):=by rw[<- cI];exact h.app r
theorem YH{v:V}{x y:Value}(I:Inv S.k S.P G σ s)(F:FR S dA G s.heap)(hx:VR G (.ref n) x)(hy:VR G v y):dJ S dA G (meth .append (.ref n) [v] σ) (call (.builtin "list.append") [x,y]) s:=by intro hn;refine hx.ref_el λa d h1=>e12 (cO (show aP σ n .stuck (λl=>iR σ n (app l [v]))≠.stuck from hn)) λls h2 e=>?_;have e:meth .append (.ref n) [v] σ=iR σ n (app ls [v]):=e;replace hn:=(e)▸hn;refine rwl (e ..) (aLJ λaA=>e24 (I.list h2 h1) λxs m h3 h4 h5 mW=>rwl mW ?_);have hl:=h4.length;obtain⟨q1,m',q2⟩:=pN (f:=λz=>z.push y) (ys:=xs++[y]) h3 (by simp);exact aA (call_meets slot_list_append (dT.isList ⟨m,h3⟩).typeIs entry_list_append (args_list_append _ _) (AutoListH.list_append_list_val_0 a xs.toArray m y (by rw[aLW];simp;exact OH h5 hl)) ⟨h3,pG (k:=s.toks) I F h2 h1 (h4.app (.cons hy .nil)) hn q1 q2 (aLO _)⟩)
theorem XV{n k:Nat}{x y:Value}(I:Inv S.k S.P G σ s)(F:FR S dA G s.heap)(hx:VR G (.ref n) x)(hy:VR G (.ref k) y):dJ S dA G (meth .extend (.ref n) [.ref k] σ) (call (.builtin "list.extend") [x,y]) s:=by
 intro hn;refine hx.ref_el λa d h1=>hy.ref_el λb d' h1'=>e12 (cO (show aP σ n .stuck (λl=>aP σ k .stuck λr=>sel (Nat.beq n k) .stuck (iR σ n (app l r)))≠.stuck from hn)) λls h2 e=>?_;have e:meth .extend (.ref n) [.ref k] σ=aP σ k .stuck λr=>sel (Nat.beq n k) .stuck (iR σ n (app ls r)):=e;replace hn:=(e)▸hn;refine rwl (e ..) (e12 (cO hn) λrs h2' e'=>?_);replace hn:=(e')▸hn;refine rwl (e' ..) ?_;have hnk:Nat.beq n k=false:=by
  cases q:Nat.beq n k with
  |false=>rfl
  |true=>rw[q]at hn;exact absurd rfl hn
 replace hn:=(hnk)▸hn;refine rwl (hnk ..) (aLJ λaA=>?_);have hn:iR σ n (app ls rs)≠.stuck:=hn;refine e24 (I.list h2 h1) λxs m h3 h4 h5 mW=>rwl mW (e24 (I.list h2' h1') λys m2 h3' h4' h5' mW=>rwl mW ?_);have hl:=h4.length;have hl':=h4'.length;obtain⟨q1,m',q2⟩:=pN (f:=λz=>z++ys.toArray) (ys:=xs++ys) h3 (by simp);refine aA ?_;refine call_meets PySem.F.slot_list_extend (dT.isList ⟨m,h3⟩).typeIs PySem.F.entry_list_extend (PySem.F.args_list_extend_2 _ _)
  (PySem.AutoSeq1.list_extend_list_list_0 a xs.toArray m b ys.toArray m2 ?_ (by rw[aLW];simp;exact OH h5 hl) (by rw[aLW];simp;exact aKa h5 h5' hl hl')) ⟨h3,h3',?_⟩
 .unfold Builtin.List.listTooLong;refine rwl (Bool.and_eq_true ..) (rwl (decide_eq_true_eq ..) (rwl (aLW ..) ?_));simp;omega
 .exact pG (k:=s.toks) I F h2 h1 (h4.app h4') hn q1 q2 (aLO _)
theorem CH{w:World}{a:Addr}{m:Nat}{x:Int}{t:Tok}{z:Value}(h3:s.heap.get? a=some (dZ xs m))(hx:xs.length<=1000000)(hc0:¬(!Builtin.List.listFitsIndex x)=true)(h:Q .none { s with heap:=s.heap.update a (Obj.mapSeq λzs:Array Value=>have k:=if x<0 then (x+((zs.size:Nat):Int)).toNat else min x.toNat zs.size;(zs.extract 0 k).push z++zs.extract k) }):
 wpAny (model prog w) A (call (.builtin "list.insert") [.ref a,.int x t,z]) Q E s:=by
 have hsz:xs.toArray.size<=sizeLine:=by rw[aLW];simp;exact HZ hx
 exact call_meets PySem.F.slot_list_insert (dT.isList ⟨m,h3⟩).typeIs PySem.F.entry_list_insert (PySem.F.args_list_insert_3 _ _ _)
  (AutoListH.list_insert_list_int_val_1 a xs.toArray m x t z hc0 hsz) ⟨h3,h⟩
theorem WY{i:Int}{v:V}{x y z:Value}(I:Inv S.k S.P G σ s)(F:FR S dA G s.heap)(hx:VR G (.ref n) x)(hy:VR G (.int i) y)(hz:VR G v z):
 dJ S dA G (meth .insert (.ref n) [.int i,v] σ) (call (.builtin "list.insert") [x,y,z]) s:=by
 intro hn;refine hx.ref_el λa d h1=>?_;obtain⟨t,aE⟩:=hy.int_inv;subst aE;cases i with
 |negSucc j=>exact absurd rfl hn
 |ofNat j=>
  refine aLJ λaA=>e03 (bA (show sel (Nat.blt j 1000) (aP σ n .stuck (λl=>iR σ n (tO v l j))) .stuck≠.stuck from hn)) λhj ej hn=>?_;have hj:=aC.mp hj;refine e12 (cO hn) λls h2 e=>?_;have e:meth .insert (.ref n) [.int (.ofNat j),v] σ=iR σ n (tO v ls j):=ej.trans e;refine aA (rwl (e ..) ?_);have hn:iR σ n (tO v ls j)≠.stuck:=by rw[<- e,show meth .insert (.ref n) [.int (.ofNat j),v] σ=_ from ej];exact hn
  refine aLJ λaA=>e24 (I.list h2 h1) λxs m h3 h4 h5 mW=>rwl mW ?_;have hl:=h4.length;have hc0:¬(!Builtin.List.listFitsIndex (Int.ofNat j))=true:=by
   have g1:Builtin.List.listFitsIndex (j:Int)=true:=by unfold Builtin.List.listFitsIndex;simp only[Bool.and_eq_true,decide_eq_true_eq];exact ZL hj
   rw[show Int.ofNat j=(j:Int) from rfl,g1];exact Bool.false_ne_true
  obtain⟨q1,m',q2⟩:=pN (f:=λzs:Array Value=>have k:=if Int.ofNat j<0 then (Int.ofNat j+((zs.size:Nat):Int)).toNat else min (Int.ofNat j).toNat zs.size;(zs.extract 0 k).push z++zs.extract k) (ys:=xs.take j++z::xs.drop j) h3 (by
   have e0:¬(Int.ofNat j<0):=by simp
   simp only[if_neg e0];refine(?_:(xs.toArray.extract 0 (min j xs.toArray.size)).push z++xs.toArray.extract (min j xs.toArray.size)=_);apply Array.toList_inj.mp;have hs:xs.toArray.size=xs.length:=by simp
   refine rwl (hs ..) ?_;rcases Nat.le_total j xs.length with q|q;.rw[Nat.min_eq_left q];simp;exact List.take_of_length_le (by simp)
   .rw[Nat.min_eq_right q,aL6 q,List.take_of_length_le q];simp)
  exact aA (CH h3 (aAj h5 hl) hc0 (pG (k:=s.toks) I F h2 h1 (rwl (CK ..) ((h4.take j).app' (.cons hz (h4.drop j)))) hn q1 q2 (aLO _)))
theorem wI{t:Sem Value}(h:wpAny S.k.M S.A t (λv s'=>s.toks<=s'.toks->Q v s') E s):wpAny S.k.M S.A t Q E s:=
 wpAny_with_toks (n:=s.toks) (aLO _) (wpAny_mono h (λZ Z x=>x) λZ Z x Z=>x)
theorem aIy{l:List Nat}{c:Nat}{x y:Value}(I:Inv S.k S.P G σ s)(F:FR S dA G s.heap)(hx:VR G (.str l) x)(hy:VR G (.str [c]) y):dJ S dA G (meth .find (.str l) [.str [c]] σ) (call (.builtin "str.find") [x,y]) s:=by intro hn;exact hx.str_el λt Z=>hy.str_el λu Z=>PySem.SC.find (rwl (XU ..) ((rwl (cF ..) (fY I F)):PQ S dA G (.ok (mkI (rD c l 0)) σ) _ _))
theorem aCq{l:List Nat}{x:Value}(I:Inv S.k S.P G σ s)(F:FR S dA G s.heap)(hx:VR G (.str l) x):dJ S dA G (meth .lower (.str l) [] σ) (call (.builtin "str.lower") [x]) s:=by
 intro hn;refine hx.str_el λt hl=>e03 (bA (show sel (gR BY l) (okS σ (iK FL l)) .stuck≠.stuck from hn)) λh1 e h2=>?_;have e:meth .lower (.str l) [] σ=okS σ (iK FL l):=e;refine rwl (e ..) ?_;have h3:=oD h2;refine PySem.SC.lower ?_ ?_;.refine rwl (BX h1 ..) (rwl (bI ..) ?_);unfold Builtin.Str.tooLong;exact decide_eq_false (by rw[aLW];exact aEJ h3)
 .rw[BX h1];exact gY I F h2
theorem NO{l o w:List Nat}{t u v:Tok}(I:Inv S.k S.P G σ s)(F:FR S dA G s.heap)(hl:l.length<=1000000)(hu:u≠0)(hv:v≠0)(huv:u≠v)(hne:o≠w)(hw:w.length<=2):
 dJ S dA G (meth .replace (.str l) [.str o,.str w] σ) (call (.builtin "str.replace") [.str ⟨l.toArray⟩ t,.str ⟨o.toArray⟩ u,.str ⟨w.toArray⟩ v]) s:=by
 intro hn;refine e03 (bA (show sel (xS l o w) (okS σ (wY o w (Nat.succ (bC l)) l)) .stuck≠.stuck from hn)) λh1 e h2=>?_;have e:meth .replace (.str l) [.str o,.str w] σ=okS σ (wY o w (Nat.succ (bC l)) l):=e;refine rwl (e ..) ?_;refine wI (PySem.SC.replace hu hv huv (beq_eq_false_iff_ne.mpr λq=>hne (nO.mp q)) ?_ λt' k hk=>?_);.refine rwl (bI ..) (rwl (bI ..) ?_);have:(l.length+1)*w.length<=(l.length+1)*2:=Nat.mul_le_mul_left _ hw;exact aFw hl this
 .refine rwl (AR h1 ..) ?_;exact gY (k:=k) I F h2 hk
theorem aIa{sep:List Nat}{x y:Value}(I:Inv S.k S.P G σ s)(F:FR S dA G s.heap)(hx:VR G (.str sep) x)(hy:VR G (.ref n) y):dJ S dA G (meth .join (.str sep) [.ref n] σ) (call (.builtin "str.join") [x,y]) s:=by
 intro hn;refine hx.str_el λt hsl=>hy.ref_el λa d h1=>e12 (cO (show aP σ n RE.stuck (λl=>(Option.rec RE.stuck (okS σ) (xN sep l):RE V))≠RE.stuck from hn)) λls h2 e=>?_;have e:meth .join (.str sep) [.ref n] σ=(Option.rec .stuck (okS σ) (xN sep ls):RE V):=e;replace hn:=(e)▸hn;refine rwl (e ..) ?_;cases q:xN sep ls with
 |none=>rw[q]at hn;exact absurd rfl hn
 |some r=>
  refine aLJ λaA=>?_;rw[q]at hn;have hn:okS σ r≠.stuck:=hn;refine e24 (I.list h2 h1) λxs m h3 h4 h5 Z=>e13 (FS q h4) λts aE j1 j2=>?_;subst aE;have hr:=oD hn;refine aA (wI (PySem.SC.join (l:=ts) (texts:=ts.map (·.1)) (dT.isList ⟨m,h3⟩) rfl ?_ λt' k hk=>?_));.delta JoinOk Builtin.Str.tooLong;refine rwl (StrLaws.joinTotal ..) (rwl (Bool.not_eq_true' ..) (rwl (bI ..) (decide_eq_false ?_)));rw[aLW,aLX];exact aKb hsl j2 hr
  .exact rwl (WU j1 ..) (gY (k:=k) I F hn hk)
theorem KB{ts:List (Str×Tok)}:∀{l:List (List Nat)},ts.map (·.1)=l.map bS->(∀p∈l,p.length<=1000000)->VRs G (l.map V.str) (strValues ts):=by
 induction ts with
 |nil=>
  intro l h Z;cases l with
  |nil=>exact .nil
  |cons a l=>cases h
 |cons q ts ih=>
  intro l h hp;cases l with
  |nil=>cases h
  |cons p l=>obtain⟨x,t⟩:=q;refine e02 (List.cons.inj h) fun(h1:x=bS p) h2=>?_;subst h1;exact .cons (.str p t (hp p (aLQ _))) (ih h2 λq hq=>hp q (aLM _ hq))
theorem aBy(c:Nat)(P:List (List Nat)):(∀p∈P,p.length<=(J c P).length)/\P.length<=(J c P).length+1:=by
 induction P with
 |nil=>exact⟨λp hp=>(by cases hp),by simp⟩
 |cons q r ih=>
  cases r with
  |nil=>exact⟨λp hp=>(by simp at hp;subst hp;exact aLO _),by simp⟩
  |cons q' r=>
   refine e02 ih λh1 h2=>?_;have e:(J c (q::q'::r)).length=q.length+1+(J c (q'::r)).length:=by refine(?_:(q++c::J c (q'::r)).length=_);simp;exact aGJ
   refine⟨λp hp=>?_,?_⟩
   .rcases List.mem_cons.mp hp with rfl|hp;.exact aHq e
    .have:=h1 p hp;exact aKk e this
   .simp only[List.length_cons]at h2|-;exact aKs h2 e
theorem aB0{l:List Nat}{c:Nat}{x y:Value}(I:Inv S.k S.P G σ s)(F:FR S dA G s.heap)(hx:VR G (.str l) x)(hy:VR G (.str [c]) y):dJ S dA G (meth .split (.str l) [.str [c]] σ) (call (.builtin "str.split") [x,y]) s:=by
 intro hn;refine hx.str_el λt hl=>hy.str_el λu Z=>?_;have e:meth .split (.str l) [.str [c]] σ=cZ σ (sO c l []):=rfl;rw[e,wO]at hn;refine rwl (e ..) (rwl (wO ..) ?_);have hlen:(cY c l []).length<=l.length+1:=by have:=(aBy c (cY c l [])).2;rw[sN]at this;simpa using this
 have hpl:∀p∈cY c l [],p.length<=1000000:=λp hp=>by have:=(aBy c (cY c l [])).1 p hp;rw[sN]at this;simp at this;exact aFt hl this
 have fin:∀(ts:List (Str×Tok)) (k:Nat),ts.map (·.1)=Txt.split ⟨l.toArray⟩ ⟨[c].toArray⟩->s.toks<=k->PQ S dA G (cZ σ ((cY c l []).map V.str)) (.ref s.heap.objs.size) { s with heap:=s.heap.push { cls:=.type "list",data:=.seq (strValues ts).toArray },toks:=k }:=λts k hts hk=>by rw[AI]at hts;exact iW I F (KB hts hpl) hn hk
 have hy:((⟨[c].toArray⟩:Str).length == 0)=false:=rfl;cases h1:(decide ((⟨l.toArray⟩:Str).length<(⟨[c].toArray⟩:Str).length)||decide (Builtin.Str.strKind ⟨l.toArray⟩<Builtin.Str.strKind ⟨[c].toArray⟩))
 .cases hf:(Builtin.Str.occurrences ⟨l.toArray⟩ ⟨[c].toArray⟩ 0 (⟨l.toArray⟩:Str).length ((⟨l.toArray⟩:Str).length+1)).isEmpty
  .have hts:Txt.split ⟨l.toArray⟩ ⟨[c].toArray⟩=Builtin.Str.partsBetween ⟨l.toArray⟩ (Builtin.Str.occurrences ⟨l.toArray⟩ ⟨[c].toArray⟩ 0 (⟨l.toArray⟩:Str).length ((⟨l.toArray⟩:Str).length+1)) (⟨[c].toArray⟩:Str).length:=by unfold Txt.split;rw[if_neg (ne_true_of_eq_false h1),if_neg (ne_true_of_eq_false hf)]
   refine call_meets PySem.F.slot_str_split (typeIs_str _ _ _) PySem.F.entry_str_split (PySem.F.args_str_split_2 _ _) (PySem.meets_str_split_sep ⟨l.toArray⟩ ⟨[c].toArray⟩ t u h1 hy hf (by rw[bI,aLW];exact HZ hl)
    (by rw[<- hts,AI,aLX,aLW];exact aFu hl hlen)) ?_
   exact rwl (strsFrom_eq ..) (fin _ _ ((numbered_texts _ _).trans hts.symm) (aLY _ _))
  .exact call_meets PySem.F.slot_str_split (typeIs_str _ _ _) PySem.F.entry_str_split (PySem.F.args_str_split_2 _ _) (PySem.meets_str_split_not_found _ _ t u h1 hy hf)
    (fin [(⟨l.toArray⟩,t)] s.toks (by unfold Txt.split;rw[if_neg (ne_true_of_eq_false h1),if_pos hf];rfl) (aLO _))
 .exact call_meets PySem.F.slot_str_split (typeIs_str _ _ _) PySem.F.entry_str_split (PySem.F.args_str_split_2 _ _) (PySem.meets_str_split_cannot_occur _ _ t u h1)
   (fin [(⟨l.toArray⟩,t)] s.toks (by unfold Txt.split;rw[if_pos h1];rfl) (aLO _))
theorem aK6{key:List Nat}{d:V}{x y z:Value}(ok:bX S.k)(I:Inv S.k S.P G σ s)(F:FR S dA G s.heap)(hx:VR G (.ref n) x)(hy:VR G (.str key) y)(hz:VR G d z):
 dJ S dA G (meth .get (.ref n) [.str key,d] σ) (call (.builtin "dict.get") [x,y,z]) s:=by
 intro hn;refine hx.ref_el λa d' h1=>?_;refine hy.str_el λu Z=>?_;refine e12 (MX (show fT σ n (RE.stuck:RE V) (λkvs=>RE.ok (Option.rec d (λv=>v) (cN kvs key):V) σ)≠RE.stuck from hn)) λkvs h2 e=>?_;have e:meth .get (.ref n) [.str key,d] σ=.ok (Option.rec d (λv=>v) (cN kvs key):V) σ:=e;refine rwl (e ..) ?_;refine aLJ λaA=>?_;obtain⟨_,es,ep,d1,kr,_,hsys⟩:=I.dict h2 h1;refine e02 (zM (a:=key) kr) λh5 h6=>?_;refine aA ?_;refine call_meetsIn PySem.F.slot_dict_get d1.dictOf.typeIs PySem.F.entry_dict_get (PySem.F.args_dict_get_3 _ _ _) (PySem.meets_dict_get_default (strKind S.k.prog S.k.w) a (k:=bS key) (nN key u) (beq_eq_false_iff_ne.mpr hsys) z)
  ⟨_,d1.dictOf.mapOf,?_⟩
 cases q:cN kvs key with
 |none=>rw[h6 q];exact dJ.done I.toks F hz
 |some v=>obtain⟨w,h7,h8⟩:=h5 v q;rw[h7];exact dJ.done I.toks F h8
end
noncomputable def IR:ME->Str
 |.append=>"append"|.extend=>"extend"|.insert=>"insert"|.find=>"find"|.split=>"split"|.join=>"join"|.lower=>"lower"|.replace=>"replace"|.get=>"get"
noncomputable def BU:ME->String
 |.append=>"list"|.extend=>"list"|.insert=>"list"|.get=>"dict"|_=>"str"
noncomputable def tG:ME->String
 |.append=>"list.append"|.extend=>"list.extend"|.insert=>"list.insert"|.find=>"str.find"|.split=>"str.split"|.join=>"str.join"|.lower=>"str.lower"|.replace=>"str.replace"|.get=>"dict.get"
structure MN(m:ME):Prop where
 plain:PlainAttrs (BU m)
 slot:Slot (BU m) (IR m) (tG m)
 ty:typeOf (.builtin (tG m))=pure (.type "method_descriptor")
theorem xL(m:ME):MN m:=by
 cases m;.exact⟨PySem.F.plainAttrs_list,PySem.F.slot_list_append,PySem.F.type_list_append⟩
 .exact⟨PySem.F.plainAttrs_list,PySem.F.slot_list_extend,PySem.F.type_list_extend⟩
 .exact⟨PySem.F.plainAttrs_list,PySem.F.slot_list_insert,PySem.F.type_list_insert⟩
 .exact⟨PySem.F.plainAttrs_str,PySem.F.slot_str_find,PySem.F.type_str_find⟩
 .exact⟨PySem.F.plainAttrs_str,PySem.F.slot_str_split,PySem.F.type_str_split⟩
 .exact⟨PySem.F.plainAttrs_str,PySem.F.slot_str_join,PySem.F.type_str_join⟩
 .exact⟨PySem.F.plainAttrs_str,PySem.F.slot_str_lower,PySem.F.type_str_lower⟩
 .exact⟨PySem.F.plainAttrs_str,PySem.F.slot_str_replace,PySem.F.type_str_replace⟩
 .exact⟨PySem.F.plainAttrs_dict,PySem.F.slot_dict_get,PySem.F.type_dict_get⟩
section
variable {S:Sit}{dA:Loc}{G:Gh}{σ:St}{s:Shared}
theorem rA{m:ME}{o:V}{x:Value}(I:Inv S.k S.P G σ s)(h:iJ m o σ=true)(hx:VR G o x):s.TypeIs x (BU m)/\∀a,x=.ref a->∃ob,s.heap.get? a=some ob/\ob.dict=none:=by
 unfold iJ at h;revert hx;refine mE h (λn h hx=>?_) λh hx=>?_
 .refine hx.ref_el λa d h1=>?_;cases hl:σ.h.get n with
  |none=>rw[hl]at h;exact ffB h
  |some o=>
   rw[hl]at h;cases o with
   |list l=>refine e24 (I.list hl h1) λxs k h3 Z Z Z=>⟨?_,λb e=>by cases e;exact⟨_,h3,rfl⟩⟩;cases m<;>first|exact(dT.isList ⟨k,h3⟩).typeIs|cases h
   |dict kvs=>have hd:=hl;obtain⟨_,es,ep,d1,kr,_⟩:=I.dict hd h1;have ht:=d1.dictOf.typeIs;refine e24 d1 λob es' e hx hd Z=>⟨?_,λb q=>by cases q;exact⟨_,e,hx.2.1⟩⟩;cases m<;>first|exact ht|cases h
   |_=>exact ffB h
 .revert hx;refine qL h (λl h hx=>hx.str_el λt Z=>⟨?_,λb e=>by cases e⟩) λh hx=>ffB h;cases m<;>first|exact typeIs_str _ _ _|cases h
theorem QK{m:ME}{o:V}{vs:List V}{x:Value}(ok:bX S.k)(hm:m≠.replace)(I:Inv S.k S.P G σ s)(F:FR S dA G s.heap)(hx:VR G o x)(hv:VRs G vs xs):
 dJ S dA G (meth m o vs σ) (call (.builtin (tG m)) (x::xs)) s:=by
 intro hn;cases m with
 |append=>refine e12 (lO hn) λn aE q1=>?_;subst aE;refine e12 (mJ q1) λv aE q2=>?_;subst aE;obtain⟨y,rfl,hy⟩:=hv.one;exact YH I F hx hy hn
 |extend=>refine e12 (lO hn) λn aE q1=>?_;subst aE;refine e12 (mJ q1) λv aE q2=>?_;subst aE;refine e12 (lO q2) λk aE q3=>?_;subst aE;obtain⟨y,rfl,hy⟩:=hv.one;exact XV I F hx hy hn
 |insert=>refine e12 (lO hn) λn aE q1=>?_;subst aE;refine e22 (aBx q1) λi v bF q2=>?_;subst bF;refine e12 (nJ q2) λi aE q3=>?_;subst aE;obtain⟨y,z,rfl,hy,hz⟩:=hv.two;exact WY I F hx hy hz hn
 |find=>refine e12 (jI hn) λn aE q1=>?_;subst aE;refine e12 (mJ q1) λv aE q2=>?_;subst aE;refine e12 (jI q2) λc aE q3=>?_;subst aE;refine e12 (mJ q3) λc aE q4=>?_;subst aE;obtain⟨y,rfl,hy⟩:=hv.one;exact aIy I F hx hy hn
 |split=>refine e12 (jI hn) λn aE q1=>?_;subst aE;refine e12 (mJ q1) λv aE q2=>?_;subst aE;refine e12 (jI q2) λc aE q3=>?_;subst aE;refine e12 (mJ q3) λc aE q4=>?_;subst aE;obtain⟨y,rfl,hy⟩:=hv.one;exact aB0 I F hx hy hn
 |join=>refine e12 (jI hn) λn aE q1=>?_;subst aE;refine e12 (mJ q1) λv aE q2=>?_;subst aE;refine e12 (lO q2) λk aE q3=>?_;subst aE;obtain⟨y,rfl,hy⟩:=hv.one;exact aIa I F hx hy hn
 |lower=>refine e12 (jI hn) λn aE q1=>?_;subst aE;refine e02 (UF q1) λzF q2=>?_;subst zF;cases hv;exact aCq I F hx hn
 |replace=>exact absurd rfl hm
 |get=>refine e12 (lO hn) λn aE q1=>?_;subst aE;refine e22 (aBx q1) λk d bF q2=>?_;subst bF;refine e12 (jI q2) λk aE q3=>?_;subst aE;obtain⟨y,z,rfl,hy,hz⟩:=hv.two;exact aK6 ok I F hx hy hz hn
end
theorem lX{env:Env}{pos:Pos}{args:List Expr}(hp:∀e∈args,bJ e=true)(hl:args.length<20):
 ((backTo pos (starEach args env)).all (λx=>!x.1)&&(backToKw pos (keywordEach [] env)).all (λx=>x.1.isSome)
  &&decide (args.length+([]:List Keyword).length+(if ([]:List Keyword).isEmpty then 0 else 1)<30))=true:=by
 have h1:(backTo pos (starEach args env)).all (λx=>!x.1)=true:=by have:=dX (pos:=pos) (env:=env) hp;refine rwl (List.all_eq_not_any_not ..) ?_;simp only[Bool.not_not];rw[this];rfl
 rw[h1,Bool.true_and];have h2:(backToKw pos (keywordEach [] env)).all (λx=>x.1.isSome)=true:=rfl;refine rwl (h2 ..) (rwl (Bool.true_and ..) (rwl (decide_eq_true_eq ..) ?_));refine(?_:args.length+0+0<30);exact aEE hl
theorem aCG{pos apos:Pos}{m:ME}{ih:Ev}{o:Expr}{f:Loc->St->RE V}(K:bX S.k)(hm:m≠.replace)(hb:mU o=true)(hline:(apos.endLine == pos.line)=true)(hl:es.length<20)(go:aH S f o)(ge:cU (λe c=>bJ e=true/\aH S (ih.e c) e) es cs):
 aH S (λl s=>(f l s).bind λo s=>sel (iJ m o s) ((evs ih l cs s).bind λvs s=>meth m o vs s) .stuck) (.Call (.Attribute o (IR m) apos) es [] pos):=by
 intro l G σ s I F H hn;dsimp only at hn|-;have hp:=eH ge;refine wpAny_Call_method_lateS (nB hb _ _ _) (lX hp hl) hline ((go I F H).step hn (λZ Z p=>p) λv aG bB x aO e1 n1 L1 I1 F1 V1=>?_);refine rwl (e1 ..) ?_;refine e03 (bA n1) λh1 e2 n2=>?_;refine rwl (e2 ..) ?_;obtain⟨t1,t2⟩:=(rA I1 h1 V1);have mf:=xL m;refine aBr (BU m) (tG m) mf.plain mf.slot mf.ty t1 t2 ?_;refine callWith_builtin (dX hp) (cQ hp ((mI ge I1 F1 (H.mono L1)).step n2 (λZ Z p=>p.le L1) λvs aJ eS xs bL e3 n3 L2 I2 F2 V2=>?_));refine rwl (e3 ..) ?_;exact(QK K hm I2 F2 (V1.mono L2) V2).post n3 (L1.trans L2)
theorem QE{w:World}{x:Str}{t u:Tok}{n:Int}(hok:MulOk x n)(h:∀t' k,s.toks<=k->(t'=t\/(t'=s.toks/\s.toks<k))->Q (.str (Txt.mul x n) t') { s with toks:=k }):wpAny (model prog w) A (binaryOp .Mult (.str x t) (.int n u)) Q E s:=by
 refine PySem.P.mul_str hok.1 hok.2.1 hok.2.2 ?_;unfold Txt.mul at h;by_cases h1:n<1;.rw[if_pos h1];have h':=h s.toks (s.toks+1) (aLV _) (.inr ⟨rfl,Nat.lt_succ_self _⟩);rw[if_pos h1]at h';exact⟨by decide,h'⟩
 .refine rwl (if_neg h1 ..) ?_;by_cases h2:(n == 1||x.length == 0)=true;.rw[if_pos h2];have h':=h t s.toks (aLO _) (.inl rfl);rw[if_neg h1,if_pos h2]at h';exact h'
  .rw[if_neg h2];have h':=h s.toks (s.toks+1) (aLV _) (.inr ⟨rfl,Nat.lt_succ_self _⟩);rw[if_neg h1,if_neg h2]at h';exact⟨PySem.fits_reps (hok.2.2 h1 (by simpa using h2)),h'⟩
theorem aBS:(sS.all λp=>!(p.2.1 == p.2.2))=true:=by decide +kernel
theorem aCo{a:List Nat}{b:V}(h:gA .mul (.str a) b σ≠.stuck):∃n:Nat,b=.int n/\n<1000/\gA .mul (.str a) b σ=okS σ (iS a n)/\okS σ (iS a n)≠.stuck:=by
 cases b with
 |int z=>
  cases z with
  |negSucc m=>exact absurd rfl h
  |ofNat n=>exact e03 (bA (show sel (Nat.blt n 1000) (okS σ (iS a n)) .stuck≠.stuck from h)) λh1 h2 h3=>JJ n rfl (aC.mp h1) h2 h3
 |_=>exact absurd rfl h
theorem QI{a:List Nat}(hn':n<1000)(h4:okS σ (iS a n)≠.stuck):MulOk ⟨a.toArray⟩ (n:Int):=by
 have hl:=oD h4;rw[HV]at hl;refine⟨?_,λq1 q2 q=>?_,λq1 q2=>?_⟩;.rw[Bool.or_eq_false_iff];exact⟨decide_eq_false (NZ),decide_eq_false (ZJ hn')⟩
 .rw[bI]at q;have h0:(0:Int)<n:=ZD q1;have:(a.length:Int)*n<=2 ^ 63-1:=by have h6:((n*a.length:Nat):Int)<100000:=Int.ofNat_lt.mpr hl;rw[Int.mul_comm,<- Int.natCast_mul];exact aAL hl
  have:=(Int.le_ediv_iff_mul_le h0).mpr this;exact aAP q this
 .refine rwl (bI ..) ?_;show Builtin.Str.tooLong _=false;unfold Builtin.Str.tooLong;refine decide_eq_false ?_;rw[aLW,show((n:Int).toNat)=n from rfl,Nat.mul_comm];exact aAK hl
theorem TV{c:V}(h:bi .str [c] σ≠.stuck):∃z l,c=.int z/\sM z=some l/\bi .str [c] σ=.ok (.str l) σ:=by
 cases c with
 |int z=>refine aLJ λaA=>e12 (mR (show ofO σ (Option.rec none (λl=>some (V.str l)) (sM z):Option V)≠.stuck from h)) λv h1 h2=>e12 (bR h1) λl h3 h4=>?_;obtain rfl:=aLP h4;exact aA (bM z l rfl h3 h2)
 |_=>exact absurd rfl h
theorem EU{v:V}{o w:List Nat}(h:meth .replace v [.str o,.str w] σ≠.stuck):∃l,v=.str l/\xS l o w=true:=by
 cases v with
 |str l=>exact e03 (bA (show sel (xS l o w) (okS σ (wY o w (Nat.succ (bC l)) l)) .stuck≠.stuck from h)) λh1 Z Z=>⟨l,rfl,h1⟩
 |_=>exact absurd rfl h
theorem RW{a b c:List Nat}(h:xS a b c=true):b≠c:=by have:=List.all_eq_true.mp aBS _ (xR a b c sS h);simpa using this
theorem zQ{α β:Type}{r:RE α}{f:α->St->RE β}(h:r.bind f≠.stuck):r≠.stuck:=λq=>h (by rw[q];rfl)
theorem LR{pos apos p1 p2 p3 p4 p5 p6:Pos}{o:Expr}{oc:CE}{x xs:Str}{i kc:Nat}(ok:S.OK)(K:bX S.k)(hb:mU o=true)(hline:(apos.endLine == pos.line)=true)(hxs:xs=Str.ofString "str")(hk:S.C.kinds.lookup xs=some .globalImplicit)(hg:S.k.mg xs=none)(hx:S.k.mb xs=some (.type "str"))(j:Nat)(go:aH S ((S.k.ev j).e oc) o)(gx:aH S (λl s=>lB l s i) (.Name x p3))(gx':aH S (λl s=>lB l s i) (.Name x p6)):
 aH S (λl s=>TJ (S.k.ev j) l s .replace oc [.bin .mul (.c (.str [46])) (.loc i),.bi .str [.loc i]])
  (.Call (.Attribute o (IR .replace) apos) [.BinOp (.Constant (.str ⟨#[46]⟩) kc p1) .Mult (.Name x p3) p2,.Call (.Name xs p4) [.Name x p6] [] p5] [] pos):=by
 intro l G σ s I F H hn;dsimp only at hn|-;have hp:∀e∈[Expr.BinOp (.Constant (.str ⟨#[46]⟩) kc p1) .Mult (.Name x p3) p2,.Call (.Name xs p4) [.Name x p6] [] p5],bJ e=true:=λe he=>by
  rcases List.mem_cons.mp he with rfl|he;.rfl
  .rcases List.mem_cons.mp he with rfl|he;.rfl
   .cases he
 refine wpAny_Call_method_lateS (nB hb _ _ _) (lX hp (by show 2<20;decide)) hline ((go I F H).step (f:=λo s=>sel (iJ .replace o s) ((evs (S.k.ev j) l [.bin .mul (.c (.str [46])) (.loc i),.bi .str [.loc i]] s).bind λvs s=>meth .replace o vs s) .stuck) hn (λZ Z p=>p) λv aG bB y aO e1 n1 L1 I1 F1 V1=>?_);have e1':TJ (S.k.ev j) l σ .replace oc [.bin .mul (.c (.str [46])) (.loc i),.bi .str [.loc i]]=_:=e1;refine rwl (e1' ..) ?_;refine e03 (bA n1) λh1 e2 n2=>?_;refine rwl (e2 ..) ?_;obtain⟨t1,t2⟩:=(rA I1 h1 V1);have mf:=xL .replace;refine aBr (BU .replace) (tG .replace) mf.plain mf.slot mf.ty t1 t2 ?_;refine callWith_builtin (dX hp) (cQ hp ?_);cases j with
 |zero=>exact absurd rfl n2
 |succ j=>
 cases j with
 |zero=>exact absurd rfl n2
 |succ j=>
 have ee:(evs (S.k.ev (j+1+1)) l [.bin .mul (.c (.str [46])) (.loc i),.bi .str [.loc i]] aG).bind (λvs s=>meth .replace v vs s) =
  (lB l aG i).bind λb s=>(gA .mul (.str [46]) b s).bind λd s=>(lB l s i).bind λc s=>(bi .str [c] s).bind λw s=>meth .replace v [d,w] s:=by
  have e:evs (S.k.ev (j+1+1)) l [.bin .mul (.c (.str [46])) (.loc i),.bi .str [.loc i]] aG =
   (((lB l aG i).bind λb s=>gA .mul (.str [46]) b s).bind λd s=>((((lB l s i).bind λc s=>(RE.ok [] s:RE (List V)).bind λvs s=>RE.ok (c::vs) s).bind (bi .str)).bind λw s=>(RE.ok [] s:RE (List V)).bind λvs s=>RE.ok (w::vs) s).bind λvs s=>RE.ok (d::vs) s):=rfl
  refine rwl (e ..) ?_;simp only[RE.bind_assoc,RE.bind_ok]
 replace n2:=(ee)▸n2;refine rwl (ee ..) ?_;refine rwl (cD rfl ..) (rwl (cD rfl ..) ?_);have HL:=H.mono L1;refine spliced_cons (wpAny_BinOp (wpAny_Constant_str ?_));refine wpAny_with_toks (n:=aO.toks+1) (aLO _) ((gx (s:={ aO with toks:=aO.toks+1 }) I1.toks F1 HL).step n2 (λZ Z p Z=>p.le L1) λb aJ eS yb bL e3 n3 L2 I2 F2 V2 hk2=>?_);refine rwl (e3 ..) ?_;have L12:=L1.trans L2;refine e14 (aCo (zQ n3)) λn aE hn1 e4 n4=>?_;subst aE;obtain⟨tb,aE⟩:=V2.int_inv;refine rwl aE ?_;have hoks:okS aJ (iS [46] n)=.ok (.str (iS [46] n)) aJ:=(bA (show sel (Nat.blt (bC (iS [46] n)) lim) (RE.ok (V.str (iS [46] n)) aJ) RE.stuck≠RE.stuck from n4)).2.1;rw[e4,hoks,RE.bind_ok]at n3;refine rwl (e4 ..) (rwl (hoks ..) (rwl (RE.bind_ok ..) ?_));refine QE (QI hn1 n4) λt' k hkk ht=>?_;refine rwl (QH ..) ?_;have ht1:t'≠0/\t'<k:=by
  have h0:0<aO.toks:=aL1 K.tk1 I1.tk;have h0':0<bL.toks:=aL1 K.tk1 I2.tk;rcases ht with rfl|⟨rfl,h⟩;.exact⟨Nat.ne_of_gt h0,aLL (aLL (Nat.lt_succ_self _) hk2) hkk⟩
  .exact⟨Nat.ne_of_gt h0',h⟩
 have I2':Inv S.k S.P eS aJ { bL with toks:=k }:=I2.toks hkk;refine spliced_cons (Call_ (jP ok K I2' hk hg hx (by rw[hxs];decide) (PyProof.Rows.callWith_type (dX (args:=[.Name x p6]) λe he=>by rcases List.mem_cons.mp he with rfl|he;exact rfl;cases he) (cQ (λe he=>by rcases List.mem_cons.mp he with rfl|he;exact rfl;cases he) ?_))));refine rwl (cD rfl ..) ?_;refine spliced_cons (wpAny_with_toks (n:=k) (aLO _) ((gx' (s:={ bL with toks:=k }) I2' F2 (H.mono L12)).step n3 (λZ Z p Z=>p.le L12) λc eB eV yc bU e5 n5 L3 I3 F3 V3 hk3=>spliced_nil ?_));refine rwl (e5 ..) ?_;have L13:=L12.trans L3;refine e23 (TV (zQ n5)) λz w bF hz e6=>?_;subst bF;rw[e6,RE.bind_ok]at n5;refine rwl (e6 ..) (rwl (RE.bind_ok ..) ?_);obtain⟨tc,aE⟩:=V3.int_inv;refine rwl aE ?_;refine e04 (pF hz) λh5 h6 h7 h8=>?_;refine PySem.P.str_of_int (aL0 (Nat.log2_le_self _) (OD h5)) ?_;have e:(↑(toString z):Str)=⟨w.toArray⟩:=h7;rw[e];refine spliced_nil ?_;refine e12 (EU n5) λlv aE hin=>?_;subst aE;refine e12 (((V1.mono L2).mono L3).str_inv) λty aE hyl=>?_;refine rwl aE ?_;have I3':Inv S.k S.P eV eB { bU with toks:=bU.toks+1 }:=I3.toks;have q:t'<bU.toks:=aLL ht1.2 hk3;exact(NO (s:={ bU with toks:=bU.toks+1 }) I3' F3 hyl ht1.1 (λe=>by rw[e]at q;exact Nat.not_lt_zero _ q) (aLT q) (RW hin) h8).post n5 L13
inductive JX(S:Sit)(n:Nat):Expr->CE->Prop where
 |txt {l k p}:l.length<=1000000->JX S n (.Constant (.str ⟨l.toArray⟩) k p) (.c (.str l))
 |fmt {e p c}:aH S ((S.k.ev n).e c) e->JX S n (.FormattedValue e (-1) none p) (.fmt c)
theorem aDc(ih:Ev)(l:Loc)(s:St):rC ih l [] s=.ok [] s:=rfl
theorem GA(ih:Ev)(l:Loc)(e:CE)(r:List CE)(s:St):rC ih l (e::r) s=(ih.e (YN e) l s).bind λv s=>eZ (NF v) λx=>(rC ih l r s).bind λy s=>.ok (app x y) s:=rfl
theorem KR{α β γ:Type}(x:Option α)(k:α->RE β)(f:β->St->RE γ):(eZ x k).bind f=eZ x λa=>(k a).bind f:=by cases x<;>rfl
theorem vG(e:Expr)(r:List Expr)(env:Env):evalEach (e::r) env=eval e env::evalEach r env:=rfl
theorem GX(a b c:List α):app (app a b) c=app a (app b c):=by simp[cI]
set_option tactic.hygienic true in
theorem QX(hh:cU (JX S n) es cs):∀{lK G:Gh}{σ:St}{s:Shared}{acc:List Nat}{R:RE V},lK.Le G->Inv S.k S.P G σ s->FR S l G s.heap->dL S.A G->
 acc.length+1000000*cs.length<=16000000->R=(rC (S.k.ev n) l cs σ).bind (λy s=>okS s (app acc y))->R≠.stuck->
 Joins S.k.M S.A (PX S l lK R) (evalEach es S.env) ⟨acc.toArray⟩ (λout aO=>out.length<=sizeLine/\PQ S l lK R (.str out aO.toks) { aO with toks:=aO.toks+1 }) s:=by
 induction hh with
 |nil=>
  intro lK G σ s acc R L0 I F H hb hR hn;have e:R=okS σ (app acc []):=by rw[hR];rfl
  have e2:app acc []=acc:=by rw[cI];simp
  rw[e2]at e;subst e;refine⟨rwl (bI ..) (rwl (aLW ..) ?_),PG.le L0 (gY I F hn)⟩;have:=oD hn;exact aEK this
 |@cons e c es cs hp hr ih=>
  intro lK G σ s acc R L0 I F H hb hR hn;refine rwl (vG ..) ?_;rw[GA,RE.bind_assoc]at hR;simp only[List.length_cons]at hb;have next:∀{G':Gh}{σ':St}{s':Shared}{x:List Nat},G.Le G'->Inv S.k S.P G' σ' s'->FR S l G' s'.heap->x.length<=1000000->R=(rC (S.k.ev n) l cs σ').bind (λy s=>okS s (app acc (app x y)))->
   ((⟨acc.toArray⟩:Str)++⟨x.toArray⟩).length<=sizeLine/\Joins S.k.M S.A (PX S l lK R) (evalEach es S.env) (⟨acc.toArray⟩++⟨x.toArray⟩) (λout aO=>out.length<=sizeLine/\PQ S l lK R (.str out aO.toks) { aO with toks:=aO.toks+1 }) s':=λ{G' σ' s' x} L' I' F' hx hR'=>by
   refine rwl (kL ..) ?_;refine⟨by rw[bI,aLW];simp;exact aJ7 hb hx,?_⟩;refine ih (L0.trans L') I' F' (H.mono L') (by simp;exact aJ8 hb hx) ?_ hn;refine rwl (hR' ..) ?_;congr 1;funext y s;exact rwr (GX ..) (rwl (cI acc x ..) rfl)
  refine aLJ λaA=>?_;cases hp with
  |txt hl=>
   cases n with
   |zero=>exact absurd (by rw[hR];rfl) hn
   |succ m=>
    refine aA (wpAny_Constant_str ?_);obtain⟨h1,h2⟩:=next (s':={ s with toks:=s.toks+1 }) (x:=_) (.refl G) I.toks F hl (by
     refine rwl (hR ..) ?_;refine(?_:((rC (S.k.ev (m+1)) l cs σ).bind λy s=>RE.ok (app _ y) s).bind _=_);rw[RE.bind_assoc];rfl)
    exact bM _ _ rfl h1 h2
  |fmt ge=>
   rename_i e p c;rw[hR]at hn;refine aA (wpAny_FormattedValue_plain ((ge I F H).step (show((S.k.ev n).e c l σ).bind _≠.stuck from hn) (λZ Z p=>by rw[hR];exact p.le L0) λv aG bB x aO e1 n1 L1 I1 F1 V1=>?_));have e1':R=_:=hR.trans e1;rw[KR]at e1' n1;refine aLJ λaA=>e12 (dO n1) λy h1 h2=>?_;rw[h2,RE.bind_assoc]at e1';have hv:(∃t,x=.str ⟨y.toArray⟩ t/\y.length<=1000000)\/(∃i t,x=.int i t/\sM i=some y):=by
    unfold NF at h1;revert V1;refine qL h1 (λl h1 V1=>?_) λh1 V1=>?_;.obtain rfl:=aLP h1;exact .inl V1.str_inv
    .revert V1;refine jW h1 (λi h1 V1=>?_) λh1 V1=>bV h1;obtain⟨t,rfl⟩:=V1.int_inv;exact .inr ⟨_,t,rfl,h1⟩
   rcases hv with⟨t,rfl,hy⟩|⟨i,t,rfl,hi⟩;.exact aA (wpAny_formatField_str (e02 (next (x:=y) L1 I1 F1 hy e1') λh3 h4=>bM _ _ rfl h3 h4) (e02 (next (s':={ aO with toks:=aO.toks+1 }) (x:=y) L1 I1.toks F1 hy e1') λh3 h4=>⟨_,_,rfl,h3,h4⟩) (by rw[bI,aLW];exact HZ hy))
   .refine e04 (pF hi) λh5 h6 h7 h8=>aA (wpAny_formatField_int (aL0 (Nat.log2_le_self _) (OD h5)) ?_);have e:(↑(toString i):Str)=⟨y.toArray⟩:=h7;refine rwl (e ..) ?_;obtain⟨h3,h4⟩:=(next (s':={ aO with toks:=aO.toks+1+1 }) (x:=y) L1 I1.toks F1 (ZF h8) e1');exact⟨_,_,rfl,h3,h4⟩
theorem aCH{pos:Pos}(h:cU (JX S n) es cs)(h2:2<=es.length)(h10:cs.length<=10):
 aH S (λl s=>(rC (S.k.ev n) l cs s).bind λx s=>okS s x) (.JoinedStr es pos):=by
 intro l G σ s I F H hn;obtain⟨e1,e2,r,rfl⟩:∃e1 e2 r,es=e1::e2::r:=by
  match es,h2 with
  |e1::e2::r,_=>exact⟨e1,e2,r,rfl⟩
 refine wpAny_JoinedStr ?_;exact QX (acc:=[]) h (.refl G) I F H (by simp;exact aEr h10) rfl hn
structure UI(k:Kit)(c:Nat)(f:FnI):Prop where
 keep:keepIn k.K (.ref (k.T.ca c))=true
 make:makesIn k.K (k.T.ca c)=true
 init:findIn k.K (.ref (k.T.ca c)) "__init__" = some (some (.ref f.a))
 fn:typeIn k.K (.ref f.a)=some (.type "function")
theorem wK(A:Around)(C:Addr)(rest:List Value):(A.under (.builtin "type.__call__" ⟨.ref C::rest,[]⟩)).handled=A.handled/\(A.under (.builtin "type.__call__" ⟨.ref C::rest,[]⟩)).frames=A.frames/\
 (A.under (.builtin "type.__call__" ⟨.ref C::rest,[]⟩)).depth=A.depth+1/\(A.under (.builtin "type.__call__" ⟨.ref C::rest,[]⟩)).units=A.units+1:=by
 refine SW rfl ?_ ?_ ?_;.unfold Around.under;dsimp only;rw[show(Code.builtin "type.__call__" ⟨.ref C::rest,[]⟩).envs=[] by kernel_rfl];rfl
 .unfold Around.under;dsimp only;rw[show(Code.builtin "type.__call__" ⟨.ref C::rest,[]⟩).weight=1 by kernel_rfl]
 .unfold Around.under;dsimp only;rw[show(Code.builtin "type.__call__" ⟨.ref C::rest,[]⟩).cUnits=1 by kernel_rfl]
theorem VY{l G σ}{c:Nat}{f:FnI}{fn:Fn}{ih:Ev}{vs:List V}(ok:S.OK)(K:bX S.k)(fo:wG S.k f fn)(co:UI S.k c f)(hc:S.k.T.nx<=c/\c<S.k.T.nc)(hb:∀S':Sit,S'.k=S.k->S'.C=f.cx S.C.hs->S'.OK->bT S' (λl s=>ih.b fn.body l s) (execs f.body S'.env))(hr:f.rank<S.C.rank)(I:Inv S.k S.P G σ s)(F:FR S l G s.heap)(H:dL S.A G)(hv:VRs G vs xs){r:RE V}(hR:r=σ.new (.inst c []) λn s=>(aR ih fn (.ref n::vs) s).bind λv s=>sel (iF v) (.ok (.ref n) s) .stuck)(hn:r≠.stuck):
 wpAny S.k.M S.A (call (.ref (S.k.T.ca c)) xs) (PQ S l G r) (PX S l G r) s:=by
 subst hR;rw[St.new_eq]at hn;refine rwl (St.new_eq ..) ?_;refine e03 (bA hn) λh3 e2 hn=>?_;refine rwl (e2 ..) ?_;have KX:=K.frag.keeps I.base;refine wpAny_call ?_;obtain⟨h,g,d,t,os⟩:=s;refine make_core (makes_of KX co.make) (looks_findIn KX co.init) (λself=>bind_fn KX self co.fn) (.inl rfl) ?_;refine e04 (wK S.A (S.k.T.ca c) xs) λa1 a2 a3 a4=>?_
 let s':Shared:=⟨(h.push emptyDict).push (instObj (S.k.T.ca c) h.objs.size),g,d,t,os⟩
 let ad:Addr×Option Addr:=(h.objs.size+1,some h.objs.size)
 have hk:∀b ob,h.get? b=some ob->s'.heap.get? b=some ob:=λb ob e=>aLS _ (aLS _ e);have fresh:∀b,h.objs.size<=b->h.get? b=none:=λb hb=>by
  cases q:h.get? b with
  |none=>rfl
  |some o=>exact absurd (aL2 q) (Nat.not_lt.mpr hb)
 have hown:∀b∈bD ad,b=h.objs.size+1\/b=h.objs.size:=λb hb=>by simpa [bD,ad] using hb
 have hf:∀b∈bD ad,h.get? b=none:=λb hb=>by
  rcases hown b hb with rfl|rfl;.exact fresh _ (aLV _)
  .exact fresh _ (aLO _)
 have hsz:(h.push emptyDict).objs.size=h.objs.size+1:=Heap.size_push ..;have g1:s'.heap.get? (h.objs.size+1)=some (instObj (S.k.T.ca c) h.objs.size):=by rw[<- hsz];exact aL4 _ rfl
 have g2:s'.heap.get? h.objs.size=some emptyDict:=aLS _ (aL4 _ rfl);have I':Inv S.k S.P (G.push ad) ⟨σ.h.upd (.inst c []) 10 σ.n,Nat.succ σ.n⟩ s':=by
  refine I.newObj (aC.mp h3) rfl rfl hk hf (λb hb=>?_) (λa d e=>?_) ?_
  .rcases hown b hb with rfl|rfl;.exact⟨_,g1⟩
   .exact⟨_,g2⟩
  .have q1:h.objs.size+1=a:=congrArg Prod.fst e;have q2:some h.objs.size=some d:=congrArg Prod.snd e;cases q1;cases q2;exact Nat.succ_ne_self _
  .refine⟨hc,instObj (S.k.T.ca c) h.objs.size,h.objs.size,λZ=>none,g1,rfl,rfl,rfl,rfl,⟨emptyDict,#[],0,g2,rfl,(λe he=>by simp at he),λZ=>rfl,aLO _⟩,λa v e=>(by cases e),by simp⟩
 have F':FR S l (G.push ad) s'.heap:=F.newObj hk hf;have Lp:=G.le_push ad;have hx:(G.push ad).φ[σ.n]? = some ad:=by rw[I.size];exact G.push_get ad
 have hcn:=zQ hn;refine codeAny_mono (qB (s:=s') ok K fo hb a1 a2 (by have:=ok.room.depth;exact aD7 hr a3 this) (by have:=ok.room.units;exact aD8 hr a4 this) I' F' (H.mono Lp) (vs:=.ref σ.n::vs) (.cons (.ref (a:=ad.1) (d:=ad.2) hx) (hv.mono Lp)) hcn) λr bL q=>?_
 match r,q with
 |.ok (.ret v),q=>
  refine e35 q λv' σ' G' h1 L' I2 F2 V2=>?_;replace hn:=(h1)▸hn;refine rwl (h1 ..) ?_;rw[RE.bind_ok]at hn;refine rwl (RE.bind_ok ..) (e03 (bA hn) λh4 h5 Z=>rwl (h5 ..) (aLJ λaA=>?_));cases v' with
  |none=>exact aA ⟨V2.none_inv,_,σ',G',rfl,Lp.trans L',I2,F2,(e11 (L'.1 _ _ _ hx) λd' q'=>.ref q')⟩
  |_=>cases h4
 |.error e,q=>exact aLJ λaA=>e53 q λn σ' G' a d h1 L' r=>aA (aIB n σ' G' a d (by rw[h1];rfl) (Lp.trans L') r)
theorem aIm{pos:Pos}{ih:Ev}{x:Str}{p':Pos}{c:Nat}{f:FnI}{fn:Fn}(ok:S.OK)(K:bX S.k)(fo:wG S.k f fn)(co:UI S.k c f)(hc:S.k.T.nx<=c/\c<S.k.T.nc)(hb:∀S':Sit,S'.k=S.k->S'.C=f.cx S.C.hs->S'.OK->bT S' (λl s=>ih.b fn.body l s) (execs f.body S'.env))(hr:f.rank<S.C.rank)(hx:S.k.mg x=some (.ref (S.k.T.ca c)))(hk:S.C.kinds.lookup x=some .globalImplicit)(hd:(x == ("__debug__" : Str))=false)(ge:cU (λe c=>bJ e=true/\aH S (ih.e c) e) es cs):
 aH S (λl s=>(evs ih l cs s).bind λvs s=>s.new (.inst c []) λn s=>(aR ih fn (.ref n::vs) s).bind λv s=>sel (iF v) (.ok (.ref n) s) .stuck) (.Call (.Name x p') es [] pos):=by
 intro l G σ s I F H hn;dsimp only at hn|-;have hp:=eH ge;refine Call_ (gT ok K I hk hx hd ?_);refine callWith_of (by show((backTo pos (starEach es S.env)).any (·.1)||false)=false;rw[dX hp];rfl) (keeps_K co.keep) (cQ hp ((mI ge I F H).step hn (λZ Z p=>p) λvs aG bB xs aO e1 n1 L1 I1 F1 V1=>⟨K.frag.keeps I1.base,?_⟩));refine rwl (e1 ..) ?_;exact wpAny_mono (VY ok K fo co hc hb hr I1 F1 (H.mono L1) V1 rfl n1) (λZ Z p=>p.le L1) λZ Z p=>p.le L1
noncomputable def dR(K:Frag)(C:Addr):Bool:=match K.lookup C with
 |some ⟨oc,_,.cls cd,sl⟩=>oc == .type "type"&&!cd.abstract&&!cd.hasDel&&(sl.toList[4]?).join == some (.builtin "Exception.__new__")&&!cd.mro.isEmpty&&cd.mro.contains (.ref C)&&cd.mro.contains (.type "Exception")&&
  cd.mro.contains (.type "BaseException")&&!cd.mro.contains (.type "AttributeError")&&!cd.mro.contains (.type "NameError")&&
  specialIn K (.ref C) "__call__" == some (some (.builtin "type.__call__"))&&instIn K (.ref C) (.type "type") == some true
 |_=>false
structure HA(M:Model)(h:Heap)(C:Addr):Prop where
 obj:∃oc od cd sl,h.get? C=some ⟨oc,od,.cls cd,sl⟩/\cd.abstract=false/\cd.hasDel=false/\cd.mro.isEmpty=false
 made:Looks M h (Bind.madeBy (.ref C)) (some "Exception.__new__")
 base:Looks M h (Bind.staticBase (.ref C)) (.ref C)
 self:Looks M h (isSubtype (.ref C) (.ref C)) true
 exc:Looks M h (isSubtype (.ref C) (.type "Exception")) true
 bexc:Looks M h (isSubtype (.ref C) (.type "BaseException")) true
 noA:Looks M h (isSubtype (.ref C) (.type "AttributeError")) false
 noN:Looks M h (isSubtype (.ref C) (.type "NameError")) false
 call:Looks M h (specialOf (.ref C) "__call__") (some (.builtin "type.__call__"))
 typ:Looks M h (isInstance (.ref C) (.type "type")) true
 mt:Looks M h (typeOf (.ref C)) (.type "type")
set_option tactic.hygienic true in
theorem lM{K:Frag}{M:Model}{h:Heap}(X:K.In h){C:Addr}(e:dR K C=true):HA M h C:=by
 unfold dR at e;refine aLJ λaA=>?_;split at e
 .rename_i oc od cd sl ho;refine aA (aLJ λaA=>?_);simp only[Bool.and_eq_true,Bool.not_eq_true',beq_iff_eq]at e;obtain⟨gW,e8⟩:=e;obtain⟨gW,e7⟩:=gW;obtain⟨gW,e11⟩:=gW;obtain⟨gW,e10⟩:=gW;obtain⟨gW,e9⟩:=gW;obtain⟨gW,e6⟩:=gW;obtain⟨gW,e5⟩:=gW;obtain⟨gW,e4⟩:=gW;obtain⟨gW,e3⟩:=gW;obtain⟨gW,e2⟩:=gW;obtain⟨e0,e1⟩:=gW;subst e0;have hc:clsIn K C=some cd:=by unfold clsIn;rw[ho]
  have hm:Looks M h (mroOf (.ref C)) cd.mro:=(looks_clsIn X hc).andThen .now;obtain⟨c,l,hl⟩:∃c l,cd.mro=c::l:=by cases q:cd.mro with|nil=>rw[q]at e4;cases e4|cons c l=>exact⟨c,l,rfl⟩
  refine aA ?_;have made:Looks M h (Bind.madeBy (.ref C)) (some "Exception.__new__"):=by intro A Q E s k q;dsimp only[Bind.madeBy];exact wpAny_bind (hm A _ E s k (rwl (hl ..) (rwl (List.forIn_cons ..) (wpAny_bind (wpAny_bind (wpAny_bind (wpAny_bind (wpAny_loadPart (k _ _ (X _ _ ho)) (wpAny_pure (rwr (Array.getElem?_toList ..) (rwl (e3 ..) (wpAny_pure (wpAny_pure (wpAny_pure q))))))))))))))
  have sub:∀b r,cd.mro.contains b=r->Looks M h (isSubtype (.ref C) b) r:=λb r hb=>looks_mroIn X (by unfold mroIn;rw[hc,Option.bind_some,if_neg (by rw[e4];decide),hb]);refine⟨⟨_,od,cd,sl,X _ _ ho,e1,e2,e4⟩,made,?_,sub _ _ e5,sub _ _ e6,sub _ _ e9,sub _ _ e10,sub _ _ e11,looks_specialIn X e7,looks_instIn X e8,(Looks.ld (part:=none) (X _ _ ho)).andThen .now⟩;intro A Q E s k q;unfold Bind.staticBase;refine wpAny_bind (hm A _ E s k ?_);rw[hl,List.forIn_cons];exact wpAny_bind (wpAny_bind (wpAny_bind (made A _ E s k (wpAny_pure (wpAny_pure (wpAny_pure q))))))
 .cases e
noncomputable abbrev jS(C t:Addr):Obj:={ cls:=.ref C,data:=.fields #[.ref t,.none,.none,.none,.bool false,.none] }
noncomputable abbrev kG(xs:List Value):Obj:={ cls:=.type "tuple",data:=.seq xs.toArray }
section
variable {prog:Program}{w:World}{A:Around}{K:Frag}{C:Addr}{R:Result->Shared->Prop}{h:Heap}{g:Array GenState}{d:Drawn}{t:Nat}{os:OsState}
theorem aBz{rest:List Value}(Y:HA (model prog w) h C)(hrest:rest.length<=sizeLine)(hq:R (.ok (.ret (.ref (h.objs.size+1)))) ⟨(h.push (kG rest)).push (jS C h.objs.size),g,d,t,os⟩):
 codeAny (model prog w) A (.call (.builtin "Exception.__new__") ⟨.ref C::rest,[]⟩) R ⟨h,g,d,t,os⟩:=by
 refine aLJ λaA=>?_;obtain⟨gW,made,base,self,exc,bexc,noA,noN,call,typ,mt⟩:=Y;refine e44 gW λoc od cd sl hC e1 e2 e4=>?_;have F:=PySem.F.excBase_Exception;refine aA ?_;refine codeAny_call_builtin_code (Code.quiet_builtin _ F.quiet) ?_;simp only[checkBuiltinCall,F.newKind,F.newSplit,F.newRow];have here:Looks (model prog w) h (Bind.madeHere "Exception.__new__" (.ref C)) ():=base.andThen (made.andThen (Looks.of_pure (by simp only[Option.map_some,bne_self_eq_false,Bool.false_eq_true,if_false])))
 repeat (first|simp only[bne_self_eq_false,Bool.false_eq_true,if_false]|lk)
 have here2:Looks (model prog w) h (Bind.madeHere "BaseException.__new__" (.ref C)) ():=base.andThen (made.andThen (Looks.of_pure (by simp only[Option.map_some,F.canon,bne_self_eq_false,Bool.false_eq_true,if_false])));have hends:=F.ends;refine PySem.codeAny_builtinAt F.entry ?_;unfold Builtin.«BaseException.__new__»;refine PySem.wpAt_bind ?_;refine PySem.wpAt_bind (PySem.wpAt_stack λp below=>PySem.wpAt_of_wpAny ?_)
 wp_walk
 refine PySem.wpAt_of_wpAny ?_;refine rwl (F.owner ..) ?_
 repeat (first|simp only[Bool.not_true,Bool.false_eq_true,if_false]|lk|wp_step)
 refine wpAny_load (aLS _ (aLS _ hC)) (wpAny_pure ?_);refine rwl (e2 ..) ?_;refine wpAny_pure (wpAny_pure ?_);refine(?_:R _ _);refine rwl (Heap.size_push ..) ?_;exact hq
theorem DY{rest:List Value}{init:Value}(Y:HA (model prog w) h C)(hi:Looks (model prog w) h (typeLookup (.ref C) "__init__") (some init))(hrest:rest.length<=sizeLine)(hb:∀self,Looks (model prog w) h (bindSpecial init self) (init,[self]))(hq:codeAny (model prog w) (A.under (.builtin "type.__call__" ⟨.ref C::rest,[]⟩)) (.call init ⟨.ref (h.objs.size+1)::rest,[]⟩) (InitBack (h.objs.size+1) R) ⟨(h.push (kG rest)).push (jS C h.objs.size),g,d,t,os⟩):
 codeAny (model prog w) A (.call (.ref C) ⟨rest,[]⟩) R ⟨h,g,d,t,os⟩:=by
 refine aLJ λaA=>?_;have Y':=Y;obtain⟨gW,made,base,self,exc,bexc,noA,noN,call,typ,mt⟩:=Y;refine e44 gW λoc od cd sl hC e1 e2 e4=>?_;refine aA ?_;refine codeAny_of_tree ?_;refine nd_load hC ?_;refine(?_:wpAny _ _ (callAny.viaDunder (.ref C) _) _ _ _);dsimp only[callAny.viaDunder];refine wpAny_bind (call.at ?_);dsimp only;refine rwl (tc_bind ..) ?_;refine wpAny_bind (wpAny_pure (wpAny_bind (wpAny_pure ?_)));refine wpAny_pure (a:=Fin.again (.call (.builtin "type.__call__") ⟨.ref C::rest,[]⟩)) (And.intro rfl ?_);refine codeAny_call_builtin_at (Code.quiet_builtin _ (by decide +kernel)) entry_typeCall (check_slot tc_kind tc_split typ (tc_args _ _ _) ?_);unfold Builtin.«type.__call__»;have hm:Looks (model prog w) h (mroOf (.ref C)) cd.mro:=((Looks.ld (part:=none) hC).andThen .now).andThen .now
 repeat (first|simp only[e4,Bool.false_eq_true,if_false]|with_reducible refine wpAny_call ?_|lk)
 refine aBz Y' hrest ?_;have k:∀b o,h.get? b=some o->((h.push (kG rest)).push (jS C h.objs.size)).get? b=some o:=λb o e=>aLS _ (aLS _ e);have hx:((h.push (kG rest)).push (jS C h.objs.size)).get? (h.objs.size+1)=some (jS C h.objs.size):=by rw[<- show(h.push (kG rest)).objs.size=h.objs.size+1 from Heap.size_push ..];exact aL4 _ rfl
 have t1:Looks (model prog w) ((h.push (kG rest)).push (jS C h.objs.size)) (typeOf (.ref (h.objs.size+1))) (.ref C):=(Looks.ld hx).andThen .now;have s1:=self.keeps k;have i1:=hi.keeps k;have b1:=(hb (.ref (h.objs.size+1))).keeps k;unfold isInstance callSpecial? specialOf
 repeat (first|with_reducible refine wpAny_call ?_|lk)
 refine codeAny_mono hq λr s' z=>?_;rcases r with e|(v|_|_|_)<;>first|exact z|exact z.elim|skip
 obtain⟨rfl,z⟩:=z;exact wpAny_pure (wpAny_pure z)
end
theorem JY{w:World}{env:Env}{o:Expr}{name:Str}{apos pos:Pos}{args:List Expr}(hbase:attributeBase o name env (eval o env)=eval o env)(hfew:((backTo pos (starEach args env)).all (λx=>!x.1)&&(backToKw pos (keywordEach [] env)).all (λx=>x.1.isSome)
  &&decide (args.length+([]:List Keyword).length+(if ([]:List Keyword).isEmpty then 0 else 1)<30))=true)(hline:(apos.endLine == pos.line)=true)(h:wpAny (model prog w) A (eval o env) (λov aO=>∀pl,wpAny (model prog w) A (getMethod ov name pl) (λfx bL=>wpAny (model prog w) A (callWith pos fx.1 fx.2 (backTo pos (starEach args env)) []) Q E bL) E aO) E s):
 wpAny (model prog w) A (eval (.Call (.Attribute o name apos) args [] pos) env) Q E s:=by
 refine rwl (arm_eval_Call ..) (rwl (hbase ..) ?_);refine wpAny_bind (wpAny_mono h (λov aO eW=>?_) λZ Z e=>e);refine wpAny_bind (wpAny_standAt ?_);have hform:methodCallForm (args.length+([]:List Keyword).length) (backTo pos (starEach args env)) (backToKw pos (keywordEach [] env))=true:=hfew;have hpos:methodCallPos true o env apos pos=pure pos:=by unfold methodCallPos;simp[hline]
 unfold methodCall;refine rwl (hform ..) ?_;refine wpAny_bind (wpAny_holding (wpAny_mono (eW _) (λfx bL aCF=>wpAny_bind (wpAny_of_eq hpos aCF)) λZ Z x=>x))
theorem tP{w:World}{K:Frag}{T:String}{name:Str}{v:Value}{pl:Sem Bool}{Q:Value×List Value->Shared->Prop}(X:K.In s.heap)(ht:typeOf (.type T)=pure (.type "type"))(hs:Manifest.isStub T=false)(e:findCls K (.type T) (.type "type") name=some (.val v))(hh:handedIn v=true)(h:Q (v,[]) { s with toks:=s.toks+1 }):wpAny (model prog w) A (getMethod (.type T) name pl) Q E s:=by
 have hstub:opaqueClassAbove (.type T)=pure none:=by unfold opaqueClassAbove;dsimp only;rw[hs];rfl
 have L0:Looks (model prog w) s.heap (typeOf (.type T)) (.type "type"):=Looks.of_pure ht;have hg:findIn K (.type "type") "__getattribute__" = some (some (.builtin "type.__getattribute__")):=type_tga;delta getMethod specialOf;refine wpAny_bind (wpAny_bind (L0.here ((looks_findIn X hg).here ?_)));dsimp only;refine rwl (if_pos canon_tga ..) ?_;refine wpAny_bind (wpAny_mono (Q:=λv=>Q (v,[])) (E:=E) ?_ (λZ Z z=>wpAny_pure z) λZ Z z=>z);have LO:Looks (model prog w) s.heap (opaqueClassAbove (.type T)) none:=Looks.of_pure hstub;refine cls_open X LO L0 hg (looks_hook X (r:=none) (by rfl)) (by show subIn K _ _=_;rfl) e
  (wpAny_pure (by show wpAny _ _ (handedOut v) _ _ _;rw[handedOut_of hh];exact wpAny_pure h))
structure UG(k:Kit)(C:Addr)(f:FnI):Prop where
 spec:specialIn k.K (.ref C) "__getattribute__" = some (some (.builtin "type.__getattribute__"))
 reads:readsIn k.K C (.type "type")=true
 find:findCls k.K (.ref C) (.type "type") "__init__" = some (.val (.ref f.a))
theorem XI{pos apos:Pos}{ih:Ev}{x:Str}{p':Pos}{C:Addr}{f:FnI}{c:Fn}(ok:S.OK)(K:bX S.k)(fo:wG S.k f c)(io:UG S.k C f)(hb:∀S':Sit,S'.k=S.k->S'.C=f.cx S.C.hs->S'.OK->bT S' (λl s=>ih.b c.body l s) (execs f.body S'.env))(hr:f.rank<S.C.rank)(hx:S.k.mg x=some (.ref C))(hk:S.C.kinds.lookup x=some .globalImplicit)(hd:(x == ("__debug__" : Str))=false)(hline:(apos.endLine == pos.line)=true)(hl:es.length<20)(ge:cU (λe c=>bJ e=true/\aH S (ih.e c) e) es cs):aH S (λl s=>(evs ih l cs s).bind (aR ih c)) (.Call (.Attribute (.Name x p') (Str.ofString "__init__") apos) es [] pos):=by
 intro l G σ s I F H hn;dsimp only at hn|-;have hp:=eH ge;refine JY rfl (lX hp hl) hline (gT ok K I hk hx hd λpl=>?_);have X:=K.frag.keeps I.base;refine method_cls X io.spec (cls_value X io.reads io.find rfl ?_);have I':Inv S.k S.P G σ { s with toks:=s.toks+1 }:=I.toks;refine e31 fo.obj λoc od sl hobj=>?_;refine callWith_function (o:=⟨oc,od,.func f.fd,sl⟩) (fd:=f.fd) (cQ hp ((mI (s:={ s with toks:=s.toks+1 }) ge I' F H).step hn (λZ Z p=>p) λvs aG bB xs aO e1 n1 L1 I1 F1 V1=>⟨⟨K.frag.keeps I1.base _ _ hobj,rfl⟩,?_⟩));refine rwl (e1 ..) ?_;refine wpAny_call (codeAny_mono (DF ok K fo hb hr I1 F1 (H.mono L1) V1 n1) λr s' q=>?_)
 match r,q with
 |.ok (.ret v),q=>exact PG.le L1 q
 |.error e,q=>exact PX.le L1 q
theorem XX{vs:List V}(h:excI vs σ≠.stuck):∃n r c fs,vs=.ref n::r/\σ.h.get n=some (.exc c fs)/\excI vs σ=.ok .none σ:=by
 unfold excI at h|-;split at h
 .split at h;.exact aID _ _ _ _ rfl (by assumption) rfl
  .exact absurd rfl h
 .exact absurd rfl h
theorem CV{l G σ}{vs:List V}(K:bX S.k)(xm:∀c,c<S.k.T.nx->dR S.k.K (S.k.T.ca c)=true)(I:Inv S.k S.P G σ s)(F:FR S l G s.heap)(hv:VRs G vs xs)(hl:xs.length<=1000000):
 dJ S l G (excI vs σ) (call (.builtin "Exception.__init__") xs) s:=by
 intro hn;refine e43 (XX hn) λn r c fs RZ hg e=>?_;subst RZ;refine rwl (e ..) ?_;refine aLJ λaA=>?_;obtain⟨x,rest,rfl,hx,hrest⟩:∃x rest,xs=x::rest/\VR G (.ref n) x/\VRs G r rest:=by cases hv with|cons a b=>exact⟨_,_,rfl,a,b⟩
 refine e22 hx.ref_inv λa d bF h1=>?_;subst bF;obtain⟨ad,h2,hc,ox,fv,h3,h4,h5,h6,h7,h8,h9⟩:=I.objs n _ hg;rw[h1]at h2;cases h2;dsimp only at h3;have X:=K.frag.keeps I.base;have Y:=lM (M:=S.k.M) X (xm c hc);have FE:=PySem.F.excBase_Exception;obtain⟨v0,hv0⟩:∃v0,fv[0]? = some v0:=⟨fv[0]'(by omega),by simp[h7]⟩;refine aA ?_;have T0:Looks S.k.M s.heap (typeOf (.ref a)) (.ref (S.k.T.ca c)):=by have:=(Looks.ld (M:=S.k.M) (part:=none) h3).andThen (f:=λo:Obj=>pure o.cls) (b:=ox.cls) .now;rw[h4]at this;exact this
 have T1:Looks S.k.M s.heap (isInstance (.ref a) (.type "Exception")) true:=T0.andThen Y.exc;refine wpAny_call (codeAny_call_builtin FE.init.plain FE.initEntry ?_);have hshort:=FE.noStar;simp only[checkBuiltinCall,FE.initKind,FE.initSplit,FE.initRow];refine aLJ λaA=>?_;obtain⟨hh,g,dd,t,os⟩:=s;obtain⟨oc,od,cd,sl,hC,-,-,-⟩:=Y.obj;dsimp only at hC;refine aA ?_
 repeat (first|with_reducible refine wpAny_loadPart_at hC ?_|with_reducible refine nd_load hC ?_|lk|wp_step)
 refine rwl (if_neg (by rw[Bool.and_eq_true];rintro⟨_,h⟩;cases h) ..) ?_;refine wpAny_pure ?_;refine wpAny_bind (wpAny_newTuple ?_ (by rw[aLW];simp at hl;exact aEk hl));have hk:∀b ob,hh.get? b=some ob->(hh.push { cls:=.type "tuple",data:=.seq rest.toArray }).get? b=some ob:=λb ob e=>aLS _ e;have I':Inv S.k S.P G σ ⟨hh.push { cls:=.type "tuple",data:=.seq rest.toArray },g,dd,t,os⟩:=I.keeps rfl rfl hk;have F':FR S l G (hh.push { cls:=.type "tuple",data:=.seq rest.toArray }):=F.keeps hk;dsimp only[Builtin.BaseException.bexcPut];refine wpAny_bind (wpAny_bind (wpAny_field (hk _ _ h3) h6 hv0 (wpAny_bind (tX (x:=.ref hh.objs.size) I' F' hg (λq=>by cases q) h1 (by decide) (λq=>by cases q) λs' I2 F2 Z Z Z=>?_))));have fin:wpAny S.k.M S.A.in1 (ret .none:Sem PySem.Fin) (λfin s'=>match fin with
  |.done f=>(match (Except.ok f:Result) with|.ok (.ret v)=>PG VR S l G (RE.ok V.none σ) v s'|.ok _=>False|.error e=>PX S l G (RE.ok V.none σ:RE V) e s')
  |.again c'=>c'.quiet=true/\codeAny S.k.M S.A c' (λr s'=>match r with|.ok (.ret v)=>PG VR S l G (RE.ok V.none σ) v s'|.ok _=>False|.error e=>PX S l G (RE.ok V.none σ:RE V) e s') s')
  (λe s'=>PX S l G (RE.ok V.none σ:RE V) e s') s':=wpAny_pure (dJ.done I2 F2 .none)
 cases v0<;>first|exact wpAny_pure fin|exact wpAny_bind (wpAny_holding (wpAny_point (wpAny_pure fin)))
theorem cU.len{α β:Type}{R:α->β->Prop}{l:List α}{r:List β}(h:cU R l r):l.length=r.length:=by
 induction h with
 |nil=>rfl
 |cons _ _ ih=>exact congrArg (· + 1) ih
theorem JK{ih:Ev}:∀{cs:List CE}{σ σ':St}{vs:List V},evs ih l cs σ=.ok vs σ'->vs.length=cs.length:=by
 intro mN;induction mN with
 |nil=>intro σ;intro σ';intro vs;intro h;cases h;rfl
 |cons c cs aQ=>
  intro σ;intro σ';intro vs;intro h;rw[oS]at h;cases q:ih.e c l σ with
  |ok v aG=>
   rw[q,RE.bind_ok]at h;cases q2:evs ih l cs aG with
   |ok ws aJ=>rw[q2,RE.bind_ok]at h;cases h;simp[aQ q2]
   |exc n aJ=>rw[q2]at h;cases h
   |stuck=>rw[q2]at h;cases h
  |exc n aG=>rw[q]at h;cases h
  |stuck=>rw[q]at h;cases h
theorem LS{pos apos:Pos}{ih:Ev}{x:Str}{p':Pos}(ok:S.OK)(K:bX S.k)(xm:∀c,c<S.k.T.nx->dR S.k.K (S.k.T.ca c)=true)(hf:findCls S.k.K (.type "Exception") (.type "type") "__init__" = some (.val (.builtin "Exception.__init__")))(hk:S.C.kinds.lookup x=some .globalImplicit)(hg:S.k.mg x=none)(hx:S.k.mb x=some (.type "Exception"))(hd:(x == ("__debug__" : Str))=false)(hline:(apos.endLine == pos.line)=true)(hl:es.length<20)(ge:cU (λe c=>bJ e=true/\aH S (ih.e c) e) es cs):aH S (λl s=>(evs ih l cs s).bind excI) (.Call (.Attribute (.Name x p') (Str.ofString "__init__") apos) es [] pos):=by
 intro l G σ s I F H hn;dsimp only at hn|-;have hp:=eH ge;refine JY rfl (lX hp hl) hline (jP ok K I hk hg hx hd λpl=>?_);have X:=K.frag.keeps I.base;refine tP X (by kernel_rfl) (by decide +kernel) hf rfl ?_;have I':Inv S.k S.P G σ { s with toks:=s.toks+1 }:=I.toks;refine callWith_builtin (dX hp) (cQ hp (wpAny_mono ((mI (s:={ s with toks:=s.toks+1 }) ge I' F H) λq=>hn (by rw[show evs ih l cs σ=.stuck from q];rfl)) (λxs aO p=>?_) λy aO p=>?_));.refine e35 p λvs aG bB h1 L1 I1 F1 V1=>?_;dsimp only at h1;replace hn:=(h1)▸hn;refine rwl (h1 ..) ?_;refine(CV K xm I1 F1 V1 ?_).post hn L1;have:=V1.length;have:=JK h1;have:=cU.len ge;omega
 .refine e52 p λn aG bB a d h1 r=>?_;dsimp only at h1;exact⟨n,aG,bB,a,d,by rw[h1];rfl,r⟩
noncomputable def Gh.exc(G:Gh)(n:Nat):Gh:={ G with excs:=n::G.excs }
theorem Gh.lew_exc(G:Gh)(n:Nat):G.LeW (G.exc n):=⟨λZ Z d e=>⟨d,e⟩,λZ h=>h,λZ h=>h,λZ h=>aLM _ h,λZ h=>h⟩
theorem Gh.Le.exc{lK G:Gh}(h:lK.Le G)(hn:lK.φ.length<=n):lK.Le (G.exc n):=
 ⟨h.1,h.2.1,h.2.2.1,λm hm=>aLM _ (h.2.2.2.1 m hm),λm hm=>by
  rcases List.mem_cons.mp hm with rfl|hm;.exact .inr hn
  .exact h.2.2.2.2.1 m hm,h.2.2.2.2.2⟩
theorem Inv.exc{k P G σ}{n c:Nat}{fs:List (Nat×V)}(h0:k.G0.Le (G.exc n))(I:Inv k P G σ s)(hg:σ.h.get n=some (.exc c fs)):Inv k P (G.exc n) σ s:=
 ⟨h0,I.gens,I.os,I.tk,I.base,I.pins,I.pinsB,I.pinsK,I.size,I.few,λm o e=>let ⟨ad,h1,h2⟩:=I.objs m o e;⟨ad,h1,h2.atW (G.lew_exc n) λZ Z Z q=>q⟩,I.full,I.apart,I.own,I.tups,I.rngs,λm hm=>by
  rcases List.mem_cons.mp hm with rfl|hm;.exact⟨_,_,hg⟩
  .exact I.excs m hm,I.fz⟩
theorem FR.monoW{S l G G'}{h:Heap}(F:FR S l G h)(w:G.LeW G')(hφ:G'.φ=G.φ):FR S l G' h:=by
 have lo:∀a,Lo S.k S.P G a->Lo S.k S.P G' a:=λa q=>⟨q.1,q.2.1,by rw[hφ];exact q.2.2⟩;refine⟨?_,λx i v h1 h2 h3=>?_,lo _ F.lo,λhc x hx=>?_,F.cellInj⟩;.exact e12 F.loc λm hm hm'=>⟨m,hm,λx i v h1 h2 h3=>let ⟨y,h4,h5⟩:=hm' x i v h1 h2 h3;⟨y,h4,h5.monoW w⟩⟩
 .obtain⟨c,y,h4,h5,h6⟩:=F.cell x i v h1 h2 h3;exact⟨c,y,h4,h5,h6.monoW w⟩
 .obtain⟨c,v,h4,h5,h6⟩:=F.cellLo hc x hx;exact⟨c,v,h4,h5,lo _ h6⟩
inductive rQ(h:Heap)(a:Addr)(v:Value):Prop where
 |mk {o vs}:h.get? a=some o->o.data=.fields vs->vs[2]? = some v->rQ h a v
theorem rQ.read{M:Model}{a:Addr}{v:Value}(x:rQ s.heap a v)(h:Q v s):wpAny M A (field (.ref a) 2) Q E s:=by obtain⟨h1,h2,h3⟩:=x;exact wpAny_field h1 h2 h3 h
inductive jE(h:Heap):Addr->Addr->Prop where
 |refl (a):jE h a a
 |step {a b c}:rQ h a (.ref b)->jE h b c->jE h a c
theorem jE.snoc{h:Heap}{a b c:Addr}(x:jE h a b)(y:rQ h b (.ref c)):∃d,rQ h a (.ref d)/\jE h d c:=by
 induction x with
 |refl a=>exact⟨c,y,.refl c⟩
 |step e r ih=>exact e12 (ih y) λd e' r'=>⟨_,e,.step e' r'⟩
theorem jE.to{h:Heap}{a b c:Addr}(x:jE h a b)(y:rQ h b (.ref c)):jE h a c:=by obtain⟨d,e,r⟩:=x.snoc y;exact .step e r
theorem vH:entryFor table "proto.unchain" = some Builtin.«proto.unchain»:=entryFor_of_tree (by kernel_rfl)
theorem AD{k P G σ}{e:Addr}{d:Option Addr}{R:Result->Shared->Prop}(I:Inv k P G σ s)(hn:G.φ[n]? = some (e,d))(hR:R (.ok (.ret .none)) s):
 ∀(j:Nat) (o slow:Addr) (od:Option Addr) (tg:Bool),j<n->j∈G.excs->G.φ[j]? = some (o,od)->(if tg=true then ∃b,rQ s.heap slow (.ref b)/\jE s.heap b o else jE s.heap slow o)->
  codeAny k.M A (.builtin "proto.unchain" ⟨[.ref e,.ref o,.ref slow,.bool tg],[]⟩) R s:=by
 intro j;induction j using Nat.strongRecOn with
 |_ j ih=>
 intro o slow od tg hj hx ho hp;refine e21 (I.excs j hx) λc fs hg=>?_;obtain⟨ad,h1,hc,ox,vs,h3,h4,h5,h6,h7,aBX,h9⟩:=I.objs j _ hg;refine e02 aBX λh8 u19=>?_;rw[ho]at h1;cases h1;dsimp only at h3;have fin:∀{A':Around},wpAny k.M A' (ret .none) (λfin s'=>match fin with|.done f=>R (.ok f) s'|.again c'=>c'.quiet=true/\codeAny k.M A c' R s') (λe s'=>R (.error e) s') s:=wpAny_pure hR;refine codeAny_builtin vH ?_;unfold Builtin.«proto.unchain»;dsimp only;rcases h8 with h8|⟨k',a',d',q1,q2,q3,q4⟩;.refine wpAny_bind (rQ.read ⟨h3,h6,h8⟩ ?_);rw[if_pos (by rfl)];exact fin
 .refine wpAny_bind (rQ.read ⟨h3,h6,q4⟩ ?_);have f2:rQ s.heap o (.ref a'):=⟨h3,h6,q4⟩;rw[if_neg (by simp)];have hne:a'≠e:=λq=>by have:=I.apart.two k' n _ _ e q3 hn (by rw[q];exact aLQ _) (aLQ _);exact aHu hj q1 this
  rw[if_neg (by simpa using hne)];split;.exact wpAny_bind (wpAny_rule fin)
  .cases tg with
   |true=>obtain⟨b,e1,e2⟩:∃b,rQ s.heap slow (.ref b)/\jE s.heap b o:=hp;exact wpAny_bind (e1.read (wpAny_pure ⟨by kernel_rfl,ih k' q1 a' b d' false (OU hj q1) q2 q3 (by simpa using e2.to f2)⟩))
   |false=>have e2:jE s.heap slow o:=hp;exact wpAny_bind (wpAny_pure (wpAny_pure ⟨by kernel_rfl,ih k' q1 a' slow d' true (OU hj q1) q2 q3 (by simpa using e2.snoc f2)⟩))
theorem KJ{l lK G σ}{n c:Nat}{fs:List (Nat×V)}{a:Addr}{d:Option Addr}{Q:Flow->Shared->Prop}(K:bX S.k)(xm:∀c,c<S.k.T.nx->dR S.k.K (S.k.T.ca c)=true)(I:Inv S.k S.P G σ s)(F:FR S l G s.heap)(H:dL S.A lK)(L:lK.Le G)(g00:S.k.G0.Le lK)(hn:lK.φ.length<=n)(hx:n∉G.excs)(hg:σ.h.get n=some (.exc c fs))(ha:G.φ[n]? = some (a,d))(hE:∀s',Inv S.k S.P (G.exc n) σ s'->FR S l (G.exc n) s'.heap->Fly S.k S.L a s'.heap->E (.ref a) s'):
 wpAny S.k.M S.A (do
  let e <- excFromValue (.ref a) "exceptions must derive from BaseException"
  let e <- if <- isType (.ref a) then holding [e] (raisedFor (.ref a) e) else raisedInstance e
  setFlight e none
  raiseNew e) Q E s:=by
 obtain⟨ad,h2,hc,ox,fv,h3,h4,h5,h6,h7,aBX,h9⟩:=I.objs n _ hg;refine e02 aBX λh8 h8'=>?_;rw[ha]at h2;cases h2;dsimp only at h3;have h1f:fv[1]? = some .none:=h8'.resolve_left hx;have X:=K.frag.keeps I.base;have Y:=lM (M:=S.k.M) X (xm c hc);have T0:Looks S.k.M s.heap (typeOf (.ref a)) (.ref (S.k.T.ca c)):=by have:=(Looks.ld (M:=S.k.M) (part:=none) h3).andThen (f:=λo:Obj=>pure o.cls) (b:=ox.cls) .now;rw[h4]at this;exact this
 have T1:Looks S.k.M s.heap (isInstance (.ref a) (.type "BaseException")) true:=T0.andThen Y.bexc;have TI:Looks S.k.M s.heap (isType (.ref a)) false:=by show Looks _ _ (loadHead a >>= λo=>pure (match o.data with|.cls _=>true|_=>false)) false;refine Looks.andThen (a:=ox) (Looks.ld h3) ?_;rw[h6];exact .now
 have L':lK.Le (G.exc n):=L.exc hn;have g0:S.k.G0.Le (G.exc n):=I.g0.exc (aL1 g00.len hn);have I':=I.exc g0 hg;have F':=F.monoW (G.lew_exc n) rfl;have hin:n∈(G.exc n).excs:=aLQ _;unfold excFromValue isExcClass raisedInstance;have TM:=Y.mt
 repeat (first|simp only[Bool.false_eq_true,if_false]|lk)
 rw[h6];refine wpAny_pure ?_;rw[h1f];refine wpAny_pure ?_;rw[if_neg (by decide)];refine wpAny_pure ?_;have fly:Fly S.k S.L a s.heap:=⟨ox,fv,h3,h6,.inl h1f⟩;rcases H with hh|⟨m,b,db,hh,hm1,hm2⟩;.exact wpAny_raiseNew_none hh (hE s I' F' fly)
 .have hmlt:m<n:=aLL (List.getElem?_eq_some_iff.mp hm2).1 hn;refine e11 (L.1 _ _ _ hm2) λdb' hm3=>?_;have hm4:=L.2.2.2.1 _ hm1;have hne:b≠a:=λq=>by have:=I.apart.two m n _ _ a hm3 ha (by rw[q];exact aLQ _) (aLQ _);exact aFX hmlt this
  unfold raiseNew;refine wpAny_bind (wpAny_handled ?_);rw[hh];dsimp only;rw[if_pos (by simpa using hne)];refine wpAny_bind (wpAny_holding (wpAny_runValue (AD I ha ?_ m b b db' false hmlt hm4 hm3 (.refl b))));show wpAny S.k.M S.A (setField (.ref a) 2 (.ref b) >>= λZ=>throw (.ref a)) _ _ _;refine wpAny_bind (tX (G:=G.exc n) I' F' hg (λq=>by cases q) ha (by decide) (λZ=>.inr ⟨m,b,db',hmlt,aLM _ hm4,hm3,rfl⟩) λs' I2 F2 ⟨o,vs,o',e1,e2,e3,e4,e5⟩ Z Z=>?_);rw[h3]at e1;cases e1;rw[h6]at e2;cases e2;exact wpAny_throw (hE s' I2 F2 ⟨o',_,e4,e5,.inl (by rw[Array.getElem?_setIfInBounds_ne (by decide)];exact h1f)⟩)
theorem St.newS_eq(s:St)(o:O)(k:Nat->St->RS):s.newS o k=sel (Nat.blt s.n 1000) (k s.n ⟨s.h.upd o 10 s.n,Nat.succ s.n⟩) .stuck:=tW s.n _
theorem yR{b:Bool}{x:RS}(h:sel b x .stuck≠.stuck):b=true/\sel b x .stuck=x/\x≠.stuck:=by
 cases b with
 |true=>exact⟨rfl,rfl,h⟩
 |false=>exact absurd rfl h
theorem KK(h:jL n l σ≠.stuck):∃c fs,σ.h.get n=some (.exc c fs)/\jL n l σ=.exc n l σ:=by
 unfold jL at h|-;split at h;.exact SV _ _ (by assumption) rfl
 .exact absurd rfl h
theorem aIT{r:RE α}{f:α->St->RS}(h:r.bs l f≠.stuck):r≠.stuck:=λq=>h (by rw[q];rfl)
theorem FA{w:World}{env:Env}{x:Expr}{pos:Pos}{Q:Flow->Shared->Prop}(h:wpAny (model prog w) A (eval x env) (λv aO=>wpAny (model prog w) A (do
  let e <- excFromValue v "exceptions must derive from BaseException"
  let e <- if <- isType v then holding [e] (raisedFor v e) else raisedInstance e
  setFlight e none
  raiseNew e) Q E aO) E s):wpAny (model prog w) A (exec (.Raise (some x) none pos) env) Q E s:=by
 refine rwl (arm_exec_Raise ..) ?_;show wpAny _ A (do standAt pos;raiseStmt env (some (do let v <- eval x env;standAt pos;pure v)) none) Q E s;refine wpAny_bind (wpAny_standAt ?_);dsimp only[raiseStmt];refine wpAny_bind (wpAny_bind (wpAny_mono h (λv aO eW=>wpAny_bind (wpAny_standAt (wpAny_pure (wpAny_bind (wpAny_pure ?_))))) λZ Z x=>x));intro Γ p hΓ;have:=eW Γ p hΓ;simp only[Sem.wp_bind,Sem.wp_holding]at this|-;exact this
theorem MP{l G σ}{c:Nat}{f:FnI}{fn:Fn}{ih:Ev}{vs:List V}(ok:S.OK)(K:bX S.k)(fo:wG S.k f fn)(xm:dR S.k.K (S.k.T.ca c)=true)(hi:findIn S.k.K (.ref (S.k.T.ca c)) "__init__" = some (some (.ref f.a)))(hfn:typeIn S.k.K (.ref f.a)=some (.type "function"))(hc:c<S.k.T.nx)(hb:∀S':Sit,S'.k=S.k->S'.C=f.cx S.C.hs->S'.OK->bT S' (λl s=>ih.b fn.body l s) (execs f.body S'.env))(hr:f.rank<S.C.rank)(I:Inv S.k S.P G σ s)(F:FR S l G s.heap)(H:dL S.A G)(hv:VRs G vs xs)(hx:xs.length<=1000000)(h3:σ.n<1000){σ':St}(hcall:aR ih fn (.ref σ.n::vs) ⟨σ.h.upd (.exc c []) 10 σ.n,Nat.succ σ.n⟩=.ok .none σ')(hQ:∀G' a d s',G.Le G'->Inv S.k S.P G' σ' s'->FR S l G' s'.heap->G'.φ[σ.n]? = some (a,d)->σ.n∉G'.excs->Q (.ref a) s'):
 wpAny S.k.M S.A (call (.ref (S.k.T.ca c)) xs) Q E s:=by
 have KX:=K.frag.keeps I.base;refine wpAny_call ?_;obtain⟨h,g,d,t,os⟩:=s;refine DY (lM KX xm) (looks_findIn KX hi) (by rw[aLW];exact HZ hx) (λself=>bind_fn KX self hfn) ?_;refine e04 (wK S.A (S.k.T.ca c) xs) λa1 a2 a3 a4=>?_
 let s':Shared:=⟨(h.push (kG xs)).push (jS (S.k.T.ca c) h.objs.size),g,d,t,os⟩
 let ad:Addr×Option Addr:=(h.objs.size+1,none)
 have hk:∀b ob,h.get? b=some ob->s'.heap.get? b=some ob:=λb ob e=>aLS _ (aLS _ e);have fresh:∀b,h.objs.size<=b->h.get? b=none:=λb hb=>by
  cases q:h.get? b with
  |none=>rfl
  |some o=>exact absurd (aL2 q) (Nat.not_lt.mpr hb)
 have hown:∀b∈bD ad,b=h.objs.size+1:=λb hb=>by simpa [bD,ad] using hb
 have hf:∀b∈bD ad,h.get? b=none:=λb hb=>by rw[hown b hb];exact fresh _ (aLV _)
 have hsz:(h.push (kG xs)).objs.size=h.objs.size+1:=Heap.size_push ..;have g1:s'.heap.get? (h.objs.size+1)=some (jS (S.k.T.ca c) h.objs.size):=by rw[<- hsz];exact aL4 _ rfl
 have I':Inv S.k S.P (G.push ad) ⟨σ.h.upd (.exc c []) 10 σ.n,Nat.succ σ.n⟩ s':=I.newObj h3 rfl rfl hk hf (λb hb=>⟨_,(hown b hb)▸g1⟩) (λa d e=>by have q:=congrArg Prod.snd e;cases q) ⟨hc,jS (S.k.T.ca c) h.objs.size,_,g1,rfl,rfl,rfl,rfl,⟨.inl rfl,.inr rfl⟩,rfl⟩;have F':FR S l (G.push ad) s'.heap:=F.newObj hk hf;have Lp:=G.le_push ad;have hx:(G.push ad).φ[σ.n]? = some ad:=by rw[I.size];exact G.push_get ad
 refine codeAny_mono (qB (s:=s') ok K fo hb a1 a2 (by have:=ok.room.depth;exact aD7 hr a3 this) (by have:=ok.room.units;exact aD8 hr a4 this) I' F' (H.mono Lp) (vs:=.ref σ.n::vs) (.cons (.ref (a:=ad.1) (d:=ad.2) hx) (hv.mono Lp)) (by rw[hcall];intro q;cases q)) λr bL q=>?_;replace q:=(hcall)▸q
 match r,q with
 |.ok (.ret v),q=>
  refine aLJ λaA=>e35 q λv' σ'' G' h1 L' I2 F2 V2=>?_;cases h1;obtain⟨d',q'⟩:=(L'.1 _ _ _ hx);refine aA ⟨V2.none_inv,hQ G' _ d' bL (Lp.trans L') I2 F2 q' λhm=>?_⟩;rcases L'.2.2.2.2.1 _ hm with q|q;.refine e21 (I.excs σ.n q) λc' fs' e=>e12 (I.objs _ _ e) λad' e' Z=>?_;have:=(List.getElem?_eq_some_iff.mp e').1;rw[I.size]at this;exact Nat.lt_irrefl _ this
  .have:(G.push ad).φ.length=G.φ.length+1:=by simp[Gh.push]
   rw[this,I.size]at q;exact Nat.not_succ_le_self _ q
 |.error e,q=>refine e53 q λn σ'' G' a d h1 L' r=>?_;cases h1
theorem VJ{pos cpos:Pos}{ih:Ev}{x:Str}{p':Pos}{c:Nat}{f:FnI}{fn:Fn}(ok:S.OK)(K:bX S.k)(fo:wG S.k f fn)(xm:∀c,c<S.k.T.nx->dR S.k.K (S.k.T.ca c)=true)(hkeep:keepIn S.k.K (.ref (S.k.T.ca c))=true)(hi:findIn S.k.K (.ref (S.k.T.ca c)) "__init__" = some (some (.ref f.a)))(hfn:typeIn S.k.K (.ref f.a)=some (.type "function"))(hc:c<S.k.T.nx)(hb:∀S':Sit,S'.k=S.k->S'.C=f.cx S.C.hs->S'.OK->bT S' (λl s=>ih.b fn.body l s) (execs f.body S'.env))(hr:f.rank<S.C.rank)(hx:S.k.mg x=some (.ref (S.k.T.ca c)))(hk:S.C.kinds.lookup x=some .globalImplicit)(hd:(x == ("__debug__" : Str))=false)(hl:es.length<20)(ge:cU (λe c=>bJ e=true/\aH S (ih.e c) e) es cs):
 bT S (λl s=>(evs ih l cs s).bs l λvs s=>s.newS (.exc c []) λn s=>(aR ih fn (.ref n::vs) s).noExc.bs l λv s=>sel (iF v) (jL n l s) .stuck) (exec (.Raise (some (.Call (.Name x p') es [] cpos)) none pos) S.env):=by
 intro l G σ s I F H hn;dsimp only at hn|-;have hp:=eH ge;refine FA (Call_ (gT ok K I hk hx hd ?_));refine callWith_of (by show((backTo cpos (starEach es S.env)).any (·.1)||false)=false;rw[dX hp];rfl) (keeps_K hkeep) (cQ hp (wpAny_mono ((mI ge I F H) (aIT hn)) (λxs aO p=>?_) λy aO p=>p.bs));refine e35 p λvs aG bB h1 L1 I1 F1 V1=>?_;refine⟨K.frag.keeps I1.base,?_⟩;dsimp only at h1;rw[h1,aBu,St.newS_eq]at hn;refine rwl (h1 ..) (rwl (aBu ..) (rwl (St.newS_eq ..) ?_));refine e03 (yR hn) λh3 e2 hn=>?_;refine rwl (e2 ..) ?_;have hxl:xs.length<=1000000:=by have:=V1.length;have:=JK h1;have:=cU.len ge;omega
 refine e21 (xK λq=>hn (by rw[q];rfl)) λv aJ hcall=>?_;replace hn:=(hcall)▸hn;refine rwl (hcall ..) ?_;have hn:sel (iF v) (jL aG.n l aJ) .stuck≠.stuck:=hn;refine e03 (yR hn) λh4 e5 hn=>?_;refine e22 (KK hn) λc' fs' hg e6=>?_;have hall:((RE.ok v aJ).noExc.bs l λv s=>sel (iF v) (jL aG.n l s) .stuck)=RS.exc aG.n l aJ:=e5.trans e6;refine rwl (hall ..) ?_;clear hall;refine aLJ λaA=>?_;cases v with
 |none=>
  refine aA (MP ok K fo (xm c hc) hi hfn hc hb hr I1 F1 (H.mono L1) V1 hxl (aC.mp h3) hcall λG' a d s' L' I' F' ha hni=>?_);have hsz:=I.size;have hle:bB.φ.length<=aG.n:=by rw[I1.size];exact aLO _
  exact KJ K xm I' F' (H.mono L1) L' I1.g0 hle hni hg ha λs'' I2 F2 fly=>JI aG.n l aJ (G'.exc aG.n) a d rfl (L1.trans (L'.exc hle)) I2 F2 rfl ha (aLQ _) fly
 |_=>cases h4
noncomputable def Sit.hnd(S:Sit)(a:Addr):Sit:={ S with A:=S.A.mark (some (.ref a)),C:={ S.C with hs:=true } }
theorem Sit.OK.hnd{a:Addr}(ok:S.OK):(S.hnd a).OK:=
 ⟨ok.kinds,ok.fn,ok.globals,ok.builtins,ok.frames,ok.frame,ok.fkind,ok.mine,ok.out,λq=>(by cases q),⟨ok.room.depth,ok.room.units⟩,ok.above,ok.cpin,ok.ndup⟩
theorem FR.hnd{a:Addr}{l G}{h:Heap}(F:FR S l G h):FR (S.hnd a) l G h:=⟨F.loc,F.cell,F.lo,F.cellLo,F.cellInj⟩
theorem FR.unhnd{a:Addr}{l G}{h:Heap}(F:FR (S.hnd a) l G h):FR S l G h:=⟨F.loc,F.cell,F.lo,F.cellLo,F.cellInj⟩
theorem Wr.hnd{a x i}(w:Wr S x i):Wr (S.hnd a) x i:=⟨w.mem,w.kind⟩
theorem KZ{w:World}{K:Frag}{e C D:Addr}{oe:Obj}{Q:Bool->Shared->Prop}(X:K.In s.heap)(he:s.heap.get? e=some oe)(hc:oe.cls=.ref D)(hxm:dR K C=true)(htup:instIn K (.ref C) (.type "tuple")=some false)(hsub:subIn K (.ref D) (.ref C)=some true)(h:Q true s):wpAny (model prog w) A (excMatches (.ref e) (.ref C)) Q E s:=by
 have Y:=lM (M:=model prog w) X hxm;have T0:Looks (model prog w) s.heap (typeOf (.ref e)) (.ref D):=by have:=(Looks.ld (M:=model prog w) (part:=none) he).andThen (f:=λo:Obj=>pure o.cls) (b:=oe.cls) .now;rw[hc]at this;exact this
 refine aLJ λaA=>?_;have T1:=looks_instIn (M:=model prog w) X htup;have T2:=looks_subIn (M:=model prog w) X hsub;have T3:=Y.bexc;obtain⟨oc,od,cd,sl,hC,-,-,-⟩:=Y.obj;refine aA ?_;have TI:Looks (model prog w) s.heap (isType (.ref C)) true:=Looks.andThen (Looks.ld hC) .now;delta excMatches isExcClass
 repeat (first|simp only[Bool.false_eq_true,if_false,if_true,Bool.not_true,List.forIn_cons,List.forIn_nil]|lk)
 exact h
theorem CM{l G σ}{x:Str}{i:Nat}{pos:Pos}{Q:Unit->Shared->Prop}(ok:S.OK)(hx:(x,i)∈S.C.names)(hk:S.C.kinds.lookup x=some .local)(I:Inv S.k S.P G σ s)(F:FR S l G s.heap)(hQ:∀s',Inv S.k S.P G σ s'->FR S (bZ l i none) G s'.heap->(∀b o,s.heap.get? b=some o->(∀es n,o.data≠.dict es n)->s'.heap.get? b=some o)->Q () s'):
 wpAny S.k.M A (do bindName S.env x .none;unbindBehindTheSuite S.env x pos) Q E s:=by
 have hk':S.env.kindOf x=some .local:=by show S.env.scope.names.lookup x=_;rw[ok.kinds];exact hk
 refine e12 F.loc λm hm hm'=>?_;have hp:(S.env.scope.kind == .class||(S.env.scope.kind == .module&&S.env.locals != S.env.globals))=false:=by rw[ok.fn];rfl
 refine e33 (id hm) λoL es ep hL hd hrest=>?_;refine wpAny_nameGoes_keeps hk' hm hp λh' v hn' hsb=>hQ _ ?_ ?_ λb o e hnd=>?_;.refine I.loose (a:=S.env.locals) (F.lo.loose λo ho=>?_) rfl rfl (λb o hb e=>(hsb.2 b hb).trans e) (aLV _);rw[hL]at ho;cases ho;exact⟨λxs n q=>(by rw[hd]at q;cases q),λvs q=>(by rw[hd]at q;cases q)⟩
 .have cellSame:∀c w,s.heap.IsCell c w->h'.IsCell c w:=λc w ⟨o,ho,hdd⟩=>by refine⟨o,(hsb.2 c λe=>?_).trans ho,hdd⟩;rw[e,hL]at ho;cases ho;rw[hd]at hdd;cases hdd
  refine⟨⟨_,hn',λz j w h1 h2 h3=>?_⟩,λz j w h1 h2 h3=>?_,F.lo,λhcm z hz=>?_,F.cellInj⟩
  .rcases iE h3 with⟨_,e2⟩|⟨q,h4⟩
   .cases e2
   .have e:z≠x:=λe=>q (by subst e;exact pL ok.ndup.1 h1 hx);refine e12 (hm' z j w h1 h2 h4) λu h5 h6=>?_;exact⟨u,by simp only[if_neg e];exact h5,h6⟩
  .rcases iE h3 with⟨_,e2⟩|⟨q,h4⟩
   .cases e2
   .refine e23 (F.cell z j w h1 h2 h4) λc u h5 h6 h7=>?_;exact bM c u h5 (cellSame _ _ h6) h7
  .refine e23 (F.cellLo hcm z hz) λc w h4 h5 h6=>?_;exact bM c w h4 (cellSame _ _ h5) h6
 .refine(hsb.2 b λq=>?_).trans e;rw[q,hL]at e;cases e;exact hnd _ _ hd
theorem lJ.keeps{k:Kit}{a:Addr}{h h':Heap}{x3:Value}(x:lJ k a h x3)(hk:∀b o,h.get? b=some o->(∀es n,o.data≠.dict es n)->h'.get? b=some o):lJ k a h' x3:=e34 x λoe vs T e1 e2 e3 t=>e24 t.obj λoT ts h1 h2 h3 h4=>⟨oe,vs,T,hk _ _ e1 (λes n q=>by rw[e2]at q;cases q),e2,e3,t.base,t.ne,oT,ts,hk _ _ h1 (λes n q=>by rw[h3]at q;cases q),h2,h3,h4⟩
theorem xT{aC6:Addr}{r r':RS}{x:Value}(ok:S.OK)(hc:S.C.comp=false)(h:PSX (S.hnd aC6) G r x s)(hr:∀n l σ,r=.exc n l σ->r'=.exc n l σ):
 notedBy S.k.M (S.A.mark (some (.ref aC6))) S.env (cameBackBy S.k.M S.A S.env (PSX S G r')) x s:=by
 refine e68 h λn l σ G' a d h1 h2 h3 h4 oN h6 h7 h8=>?_;refine rwl oN ?_;unfold notedBy;refine kP (S:=S.hnd aC6) ok.hnd hc h3 h4 h7 h6 h8 λs' I' F' nt=>?_;refine DG ok hc I' F'.unhnd nt λs'' I'' F'' nt'=>?_;exact JI n l σ G' a d (hr _ _ _ h1) h2 I'' F'' rfl h6 h7 (nt'.fly (.inr rfl))
theorem LN{sup:Nat->Nat->Bool}{ih:Ev}{c:Nat}{nm:Option Nat}{h:List CS}{e:Nat}(hn:gG sup ih c nm h e l σ≠.stuck):∃k fs,σ.h.get e=some (.exc k fs)/\sup k c=true/\
 gG sup ih c nm h e l σ=(Option.rec (ih.b h l σ) (λi=>(ih.b h (bZ l i (some (.ref e))) σ).clr i) nm:RS):=by
 unfold gG at hn|-;split at hn;.refine e03 (yR hn) λh1 h2 Z=>?_;exact bM _ _ (by assumption) h1 h2
 .exact absurd rfl hn
inductive AsR(S:Sit):Option Str->Option Nat->Prop where
 |none:AsR S none none
 |some {x i}:(x,i)∈S.C.names->S.C.kinds.lookup x=some .local->AsR S (some x) (some i)
theorem aCW{r:RS}{i:Nat}(h:r.clr i≠.stuck):r≠.stuck:=λq=>h (by rw[q];rfl)
theorem aDB{pos hpos p':Pos}{ih:Ev}{fb:Loc->St->RS}{body suite:List Stmt}{TS:Stmt}{hc:List CS}{x:Str}{c:Nat}{nS:Option Str}{nm:Option Nat}(ok:S.OK)(K:bX S.k)(hcm:S.C.comp=false)(xm:∀c,c<S.k.T.nx->dR S.k.K (S.k.T.ca c)=true)(htup:instIn S.k.K (.ref (S.k.T.ca c)) (.type "tuple")=some false)(hsup:∀k,k<S.k.T.nx->S.k.sup k c=true->subIn S.k.K (.ref (S.k.T.ca k)) (.ref (S.k.T.ca c))=some true)(hcx:c<S.k.T.nx)(hx:S.k.mg x=some (.ref (S.k.T.ca c)))(hk:S.C.kinds.lookup x=some .globalImplicit)(hd:(x == ("__debug__" : Str))=false)(as:AsR S nS nm)(gb:bT S fb (execs body S.env))(gh:∀a,bT (S.hnd a) (λl s=>ih.b hc l s) (execs (TS::suite) S.env)):
 bT S (λl s=>RS.rec .ok (gG S.k.sup ih c nm hc) .stuck (fb l s)) (exec (.Try body [.ExceptHandler (some (.Name x p')) nS (TS::suite) hpos] [] [] pos) S.env):=by
 intro l G σ s I F H hn;dsimp only at hn|-;obtain⟨_,hfe,hfr⟩:S.C.comp=false/\S.fenv=S.env/\S.env.frame=some S.env.locals:=by
  refine aLJ λaA=>?_;rcases ok.mine with q|⟨q,_⟩;.exact aA q
  .rw[hcm]at q;cases q
 have hL:S.L=S.env.locals:=by unfold Sit.L;rw[hfe,hfr];rfl
 refine wpAny_Try_except (wpAny_mono (gb I F H λq=>hn (by rw[q])) (λf aO p=>?_) λy aO p=>?_)
 .refine e45 p λfl l' σ' G' h1 h2 h3 h4 h5=>?_;replace hn:=(h1)▸hn;refine rwl (h1 ..) ?_;cases h5 with
  |next=>exact wpAny_execs_nil ⟨_,_,_,G',rfl,h2,h3,h4,.next⟩
  |cont=>exact⟨_,_,_,G',rfl,h2,h3,h4,.cont⟩
  |ret v=>exact⟨_,_,_,G',rfl,h2,h3,h4,.ret v⟩
 .refine e68 p λn l' σ' G' a d h1 L1 I1 F1 oN ha hxx fly=>?_;refine rwl oN ?_;replace hn:=(h1)▸hn;refine rwl (h1 ..) ?_;have hn:gG S.k.sup ih c nm hc n l' σ'≠.stuck:=hn;refine e23 (LN hn) λk fs hg hsk e1=>?_;have hr:(RS.rec .ok (gG S.k.sup ih c nm hc) .stuck (.exc n l' σ':RS):RS)=_:=e1;refine rwl (hr ..) ?_;clear hr;replace hn:=(e1)▸hn;refine kP ok hcm I1 F1 hxx ha fly λbL I2 F2 nt=>?_;refine fP (fr:=none) I2 F2 nt λbU I3 F3 nt3=>?_;refine aLJ λaA=>?_;have H3:dL (S.hnd a).A G':=.inr ⟨n,a,d,rfl,hxx,ha⟩;obtain⟨ad,q1,hkx,ox,vs,q2,q3,-⟩:=I3.objs n _ hg;rw[ha]at q1;cases q1;dsimp only at q2;refine aA ?_;refine wpAny_handleBy_cons (codeAny_handlers_test (gT (S:=S.hnd a) ok.hnd K I3 hk hx hd (KZ (K.frag.keeps I3.base) q2 q3 (xm c hcx) htup (hsup k hkx hsk) ?_))) (by intro q;cases q);refine(?_:codeAny S.k.M (S.A.mark (some (.ref a))) (.handlers (.ref a) [.ExceptHandler none nS (TS::suite) hpos] S.env) _ bU);cases as with
  |none=>exact codeAny_handlers_suite (fP (S:=S.hnd a) (fr:=none) I3 F3.hnd nt3 λkJ I4 F4 nt4=>wpAny_mono (gh a I4 F4 H3 hn) (λf EK p=>e45 p λfl l'' σ'' G'' h5 L5 I5 F5 V5=>tY fl l'' σ'' G'' h5 (L1.trans L5) I5 F5.unhnd V5) λy EK p=>xT ok hcm (PSX.le L1 p) λZ Z Z q=>q)
  |@some x' i hmem hloc=>
   have hn:((ih.b hc (bZ l' i (some (.ref n))) σ').clr i)≠.stuck:=hn;have w:Wr S x' i:=⟨hmem,.inl hloc⟩;show codeAny S.k.M (S.A.mark (some (.ref a))) (.handlers (.ref a) [.ExceptHandler none (some x') (TS::suite) hpos] S.env) (λr bL=>match r with
    |.ok f=>wpAny S.k.M S.A (do bindName S.env x' .none;unbindBehindTheSuite S.env x' hpos) (λZ bU=>PS S G ((ih.b hc (bZ l' i (some (.ref n))) σ').clr i) f bU) (PSX S G ((ih.b hc (bZ l' i (some (.ref n))) σ').clr i)) bL
    |.error x=>cameBackBy S.k.M S.A S.env (PSX S G ((ih.b hc (bZ l' i (some (.ref n))) σ').clr i)) x bL) bU
   refine codeAny_handlers_suite_as (fP (S:=S.hnd a) (fr:=none) I3 F3.hnd nt3 λkJ I4 F4 nt4=>Wr.store (S:=S.hnd a) w.hnd ok.hnd I4 F4 (v:=.ref n) (.ref ha) λEK I5 F5=>wpAny_mono (gh a I5 F5 H3 (aCW hn)) (λf aJt p=>?_) λy aJt p=>?_);.refine e45 p λfl l'' σ'' G'' h5 L5 I6 F6 V5=>?_;dsimp only at h5;refine CM ok hmem hloc I6 F6.unhnd λaJs I7 F7 Z=>⟨fl,bZ l'' i none,σ'',G'',by rw[h5];rfl,L1.trans L5,I7,F7,V5⟩
   .refine e68 p λn' l'' σ'' G'' a' d' h5 L5 I6 F6 oN ha' hx' fly'=>rwl oN ?_;dsimp only at h5;refine kP (S:=S.hnd a) ok.hnd hcm I6 F6 hx' ha' fly' λaJs I7 F7 nt7=>CM (S:=S.hnd a) ok.hnd hmem hloc I7 F7 λaLt I8 F8 hk8=>aLJ λaA=>?_;have nt8:=nt7.keeps hk8;obtain⟨oe,vs',T,f1,f2,f3,-⟩:=id nt8;refine aA ?_;dsimp only[PySem.passOn];exact wpAny_bind (wpAny_field f1 f2 f3 (rwl (if_neg (by simp) ..) (wpAny_bind (fP (S:=S.hnd a) (fr:=S.env.frame) I8 F8 nt8 λaLs I9 F9 nt9=>wpAny_throw (xT (r:=(ih.b hc (bZ l' i (some (.ref n))) σ').clr i) ok hcm ⟨n',bZ l'' i none,σ'',G'',a',d',by rw[h5];rfl,L1.trans L5,I9,F9,rfl,ha',hx',nt9.fly (.inr (rwl (hfr ..) ((rwl (hL ..) rfl):rawInt S.env.locals=rawInt S.L)))⟩ λZ Z Z q=>q)))))
theorem Inv.adopt{k P G σ}(I:Inv k P G σ s){o:O}{D:Addr}(hn:σ.n<1000)(lo:Lo k P G D)(hl:∃ob,s.heap.get? D=some ob)(hx:OR k.prog k.w k.T (G.push (D,none)) σ.n s.heap (D,none) o):Inv k P (G.push (D,none)) ⟨σ.h.upd o 10 σ.n,Nat.succ σ.n⟩ s:=by
 have get:∀(m:Nat) ad',(G.push (D,none)).φ[m]? = some ad'->G.φ[m]? = some ad'\/(m=σ.n/\ad'=(D,none)):=λm ad' e=>by
  rw[Gh.push]at e;rcases Nat.lt_or_ge m G.φ.length with q|q;.rw[aL9 q]at e;exact .inl e
  .replace e:=(aMa q)▸e;have:m-G.φ.length=0:=by
    rcases Nat.eq_zero_or_pos (m-G.φ.length) with z|z;.exact z
    .rw[List.getElem?_eq_none (show [(D,(none:Option Addr))].length<=_ from z)]at e;cases e
   rw[this]at e;exact .inr ⟨by have:=I.size;omega,by simpa using e.symm⟩
 have only:∀b,b∈bD (D,none)->b=D:=λb hb=>by simpa [bD] using hb
 have old:∀(m:Nat) ad',G.φ[m]? = some ad'->∀b∈bD ad',b∉bD (D,none):=λm ad' e b hb hb'=>by have:=only b hb';subst this;exact lo.2.2 m ad' e hb
 have full':∀(m:Nat) ad',(G.push (D,none)).φ[m]? = some ad'->∃om,(σ.h.upd o 10 σ.n).get m=some om:=by
  intro m ad' e;refine rwl (Tr.get_upd _ _ _ _ _ (by omega) ..) ?_;rcases get m _ e with q|⟨q,_⟩;.have hlt:m<G.φ.length:=(List.getElem?_eq_some_iff.mp q).1;rw[if_neg (by have:=I.size;omega)];exact I.full m ad' q
  .exact⟨o,by rw[if_pos q]⟩
 refine⟨I.g0.trans (G.le_push _),I.gens,I.os,I.tk,I.base,I.pins,I.pinsB,I.pinsK,?_,hn,λm om e=>?_,full',⟨λm a d e=>?_,λi j a1 a2 x e1 e2 m1 m2=>?_⟩,λm ad' e b hb=>?_,I.tups,I.rngs,λm hm=>?_,I.fz⟩;.show Nat.succ σ.n=(G.φ++[(D,none)]).length;rw[aMe,I.size];rfl
 .rw[Tr.get_upd _ _ _ _ _ (IA hn)]at e;by_cases q:m=σ.n;.rw[if_pos q]at e;cases e;subst q;exact⟨(D,none),by rw[Gh.push,aMa (by rw[I.size];exact aLO _),I.size,Nat.sub_self];rfl,hx⟩
  .replace e:=(if_neg q)▸e;refine e12 (I.objs m om e) λgW h2 h3=>?_;obtain⟨a',d'⟩:=gW;refine⟨(a',d'),?_,h3.at (G.le_push _) λb Z ob z=>z⟩;rw[Gh.push,aL9 (List.getElem?_eq_some_iff.mp h2).1];exact h2
 .rcases get m _ e with q|⟨_,q⟩;.exact I.apart.one m a d q
  .have:=congrArg Prod.snd q;cases this
 .rcases get i _ e1 with q|⟨q,rfl⟩<;>rcases get j _ e2 with z|⟨z,rfl⟩;.exact I.apart.two i j a1 a2 x q z m1 m2
  .exact absurd m2 (old i a1 q x m1)
  .exact absurd m1 (old j a2 z x m2)
  .exact rwl (q ..) (rwl (z ..) rfl)
 .rcases get m _ e with q|⟨_,rfl⟩;.exact I.own m ad' q b hb
  .have:=only b hb;refine aLJ λaA=>?_;subst this;exact aA ⟨lo.1,lo.2.1,hl⟩
 .refine e21 (I.excs m hm) λc fs e=>?_;refine e12 (I.objs m _ e) λad' h2 Z=>?_;have hlt:m<G.φ.length:=(List.getElem?_eq_some_iff.mp h2).1;refine⟨c,fs,?_⟩;rw[Tr.get_upd _ _ _ _ _ (IA hn),if_neg (by have:=I.size;exact aHr hlt this)];exact e
theorem Inv.pinned'{k P G σ}{t:Addr}{o:Obj}(I:Inv k P G σ s)(hm:(t,o)∈P)(hd:∀es n,o.data≠.dict es n):s.heap.get? t=some o/\k.B.get? t=none/\∀(n:Nat) ad,G.φ[n]? = some ad->t∉bD ad:=by refine aLJ λaA=>e12 (I.pins _ hm) λsl h1 h2=>?_;have:=h2 hd;subst this;exact aA ⟨h1,I.pinsB _ hm,λn ad e hx=>(I.own n ad e t hx).2.1 _ hm rfl⟩
section
variable {S:Sit}
theorem KD{M:Model}{env:Env}{Q:Bool->Shared->Prop}(h:Q false s):∀es:List Expr,
 wpAny M A (forIn es false λc r=>if r=true then do let ok <- isTrue c env (eval c env);pure (ForInStep.yield ok) else pure (ForInStep.yield r)) Q E s:=by
 intro x9;induction x9 with
 |nil=>rw[List.forIn_nil];exact wpAny_pure h
 |cons e es aQ=>simp only[List.forIn_cons,Bool.false_eq_true,if_false];exact wpAny_bind (wpAny_pure (aQ))
theorem sJ(ih:Ev)(l:Loc)(e:CE)(es:List CE)(s:St):iP ih l (e::es) s=((ih.e e l s).bind tr).bind λb s=>sel b (iP ih l es s) (.ok false s):=rfl
theorem KC{ih:Ev}(h9:cU (λe c=>dC S (ih.e c) e) es cs):
 wF EqR S (λl s=>iP ih l cs s) (forIn es true λc r=>if r=true then do let ok <- isTrue c S.env (eval c S.env);pure (ForInStep.yield ok) else pure (ForInStep.yield r)):=by
 induction h9 with
 |nil=>exactλZ Z Z Z I F H hn=>by rw[List.forIn_nil];exact wpAny_pure ⟨true,_,_,rfl,.refl _,I,F,rfl⟩
 |@cons e c es cs ge gr ih'=>
  intro l G σ s I F H hn;dsimp only at hn|-;rw[sJ]at hn;refine rwl (sJ ..) ?_;simp only[List.forIn_cons,if_true];refine wpAny_bind (wpAny_bind ((ge I F H).step hn (λZ Z p=>p) λv aG bB x aO e1 n1 L1 I1 F1 V1=>rwl (e1 ..) ?_));subst V1;refine wpAny_pure ?_;cases v with
  |true=>exact(ih' I1 F1 (H.mono L1)).post n1 L1
  |false=>exact KD ⟨false,_,bB,rfl,L1,I1,F1,rfl⟩ es
end
theorem GK{env:Env}{f:Str×NameKind->List (Str×Addr)->Sem (ForInStep (List (Str×Addr)))}(hf1:∀n r c,env.cells.lookup n=some c->f (n,.free) r=pure (.yield ((n,c)::r)))(hf2:∀n k r,k≠.free->f (n,k) r=pure (.yield r)):
 ∀(names:List (Str×NameKind)) (cs:List (Str×Addr)),(∀x∈names,x.2=.free->∃c,env.cells.lookup x.1=some c)->
 ∃cl,forIn names cs f=pure cl/\∀x,((x,NameKind.free)∈names\/cs.lookup x=env.cells.lookup x)->cl.lookup x=env.cells.lookup x:=by
 intro mN;induction mN with
 |nil=>
  intro cs _;exact⟨cs,rfl,λx h=>by
   rcases h with h|h;.exact False.elim (by cases h)
   .exact h⟩
 |cons rE r aQ=>
  obtain⟨n,kd⟩:=rE;intro cs h;refine rwl (List.forIn_cons ..) ?_;by_cases q:kd=.free
  .subst q;refine e11 (h _ (aLQ _) rfl) λc hc=>rwl (hf1 n cs c hc ..) (rwl (pure_bind ..) (e12 (aQ ((n,c)::cs) λx hx=>h x (aLM _ hx)) λcl h1 h2=>⟨cl,h1,λx hx=>h2 x ?_⟩));by_cases z:x=n;.subst z;right;rw[List.lookup_cons_self,hc]
   .have z':(x == n)=false:=beq_eq_false_iff_ne.mpr z;rcases hx with hx|hx
    .rcases List.mem_cons.mp hx with y|hx
     .cases y;exact absurd rfl z
     .exact .inl hx
    .right;rw[List.lookup_cons,z'];exact hx
  .refine rwl (hf2 n kd cs q ..) (rwl (pure_bind ..) (e12 (aQ cs λx hx=>h x (aLM _ hx)) λcl h1 h2=>⟨cl,h1,λx hx=>h2 x ?_⟩));rcases hx with hx|hx
   .rcases List.mem_cons.mp hx with y|hx
    .cases y;exact absurd rfl q
    .exact .inl hx
   .exact .inr hx
theorem zN{scope:Scope}{env:Env}(h:∀x∈scope.names,x.2=.free->∃c,env.cells.lookup x.1=some c):
 ∃cl,closureFor scope env=pure cl/\∀x,(x,NameKind.free)∈scope.names->cl.lookup x=env.cells.lookup x:=by
 unfold closureFor;dsimp only;generalize hf:(fun(x:Str×NameKind) (r:List (Str×Addr))=>(_:Sem (ForInStep (List (Str×Addr)))))=f;obtain⟨cl,h1,h2⟩:=GK (f:=f) (λn r c hc=>by
  refine rwr (hf ..) ?_;have e:cellOf env n=pure c:=by unfold cellOf;rw[hc]
  dsimp only;rw[if_pos (show(NameKind.free == NameKind.free)=true from rfl),e,pure_bind]) (λn k r hk=>by
  rw[<- hf];have q':(k == NameKind.free)=false:=beq_eq_false_iff_ne.mpr hk;dsimp only;rw[q',if_neg (by decide)]) scope.names [] h
 exact⟨cl,by rw[h1,pure_bind],λx hx=>h2 x (.inl hx)⟩
noncomputable def EV(names kinds:List (Str×NameKind)):List (Str×NameKind):=names.map fun(n,k)=>if (k == .free&&kinds.lookup n == some .cell)=true then (n,.cell) else (n,k)
structure iA(C Cc:Cx)(scope:Scope)(is:List Nat):Prop where
 kind:scope.kind=.function
 nocell:∀x∈scope.names,x.2≠.cell
 names:∀x∈scope.names,x.2=.local->scope.names.lookup x.1=some .local
 free:∀x∈scope.names,x.2=.free->C.kinds.lookup x.1=some .cell
 kinds:Cc.kinds=EV scope.names C.kinds
 comp:Cc.comp=true
 hs:Cc.hs=C.hs
 rank:Cc.rank=C.rank
 loc:∀x i,(x,i)∈Cc.names->Cc.kinds.lookup x=some .local->i∈is
 cell:∀x i,(x,i)∈Cc.names->Cc.kinds.lookup x=some .cell->(x,i)∈C.names
 cellK:∀x,Cc.kinds.lookup x=some .cell->C.kinds.lookup x=some .cell/\(x,NameKind.free)∈scope.names
 ndup:(Cc.names.map (·.1)).Nodup/\(Cc.names.map (·.2)).Nodup
noncomputable def Sit.inner(S:Sit)(Cc:Cx)(scope:Scope)(cl:List (Str×Addr))(C:Addr)(P:List (Addr×Obj)):Sit:=
 { k:=S.k,C:=Cc,env:=compEnvC scope cl C S.env,fenv:=S.fenv,outer:=S.outer,A:=S.A,P:=P }
structure MO(S:Sit)(P:List (Addr×Obj))(C:Addr):Prop where
 loc:∃o,(S.env.locals,o)∈P/\∃es n,o.data=.dict es n
 sub:∀p∈S.P,p∈P
 cells:∀x,S.C.kinds.lookup x=some .cell->∃c o v,S.env.cells.lookup x=some c/\(c,o)∈P/\o.data=.cell v
 above:S.k.B.objs.size<=C
theorem MO.cons{S P C}(io:MO S P C)(p:Addr×Obj):MO S (p::P) C:=
 ⟨e12 (io.loc) λo h1 h2=>⟨o,aLM _ h1,h2⟩,λq hq=>aLM _ (io.sub q hq),λx hx=>e33 (io.cells x hx) λc o v h1 h2 h3=>⟨c,o,v,h1,aLM _ h2,h3⟩,io.above⟩
theorem RQ{Cc:Cx}{scope:Scope}{is:List Nat}{cl:List (Str×Addr)}{C:Addr}{P:List (Addr×Obj)}(ok:S.OK)(hcm:S.C.comp=false)(co:iA S.C Cc scope is)(io:MO S P C)(hcl:∀x,(x,NameKind.free)∈scope.names->cl.lookup x=S.env.cells.lookup x):(S.inner Cc scope cl C P).OK:=by
 refine⟨?_,co.kind,ok.globals,ok.builtins,ok.frames,ok.frame,ok.fkind,.inr ⟨co.comp,?_⟩,λe he=>?_,λq=>ok.handled (co.hs▸q),?_,io.above,λZ x hx=>?_,co.ndup⟩;.refine(?_:(relabel scope S.env).names=Cc.kinds);refine rwl (co.kinds ..) ?_;delta relabel EV;refine List.map_congr_left λx hx=>?_;obtain⟨n,kd⟩:=x;dsimp only;rw[ok.fn,show S.env.kindOf n=S.C.kinds.lookup n by show S.env.scope.names.lookup n=_;rw[ok.kinds]];exact rwl (show(ScopeKind.function == ScopeKind.function)=true from rfl ..) (rwl (Bool.and_true ..) rfl)
 .rcases ok.mine with⟨_,q2,q3⟩|⟨q1,_⟩;.refine e12 io.loc λo h1 h2=>?_;exact bM S.env.locals o (by show S.fenv.frame=_;rw[q2];exact q3) h1 h2
  .rw[hcm]at q1;cases q1
 .obtain⟨h1,L,o,h2,h3,h4⟩:=ok.out e he;exact⟨h1,L,o,h2,io.sub _ h3,h4⟩
 .exact⟨by show S.A.depth+3*Cc.rank<_;rw[co.rank];exact ok.room.depth,by show S.A.units+20*Cc.rank<_;rw[co.rank];exact ok.room.units⟩
 .refine e02 (co.cellK x hx) λh1 h2=>?_;refine e33 (io.cells x h1) λc o v h3 h4 h5=>?_;exact CW c o v ((hcl x h2).trans h3) h4 h5
theorem RT{Cc:Cx}{scope:Scope}{is:List Nat}{cl:List (Str×Addr)}{C:Addr}{P:List (Addr×Obj)}{h:Heap}{m:Str->Option Value}(F:FR S l G h)(co:iA S.C Cc scope is)(hcl:∀x,(x,NameKind.free)∈scope.names->cl.lookup x=S.env.cells.lookup x)(clear:∀i∈is,∀v,nth l i≠some (some v))(hC:h.Ns C m)(lo:Lo S.k P G C):FR (S.inner Cc scope cl C P) l G h:=by
 refine⟨⟨m,hC,λx i v h1 h2 h3=>absurd h3 (clear i (co.loc x i h1 h2) v)⟩,λx i v h1 h2 h3=>?_,lo,λq=>?_,λq=>?_⟩;.refine e02 (co.cellK x h2) λq1 q2=>?_;refine e23 (F.cell x i v (co.cell x i h1 h2) q1 h3) λc y h4 h5 h6=>?_;exact bM c y ((hcl x q2).trans h4) h5 h6
 .have q':Cc.comp=false:=q;rw[co.comp]at q';cases q'
 .have q':Cc.comp=false:=q;rw[co.comp]at q';cases q'
theorem DE(l:Loc)(i:Nat)(is:List Nat):lD l (i::is)=sel (jT l i) (lD l is) false:=rfl
theorem yE{i:Nat}(h:jT l i=true)(v:V):nth l i≠some (some v):=λq=>by unfold jT at h;rw[q]at h;cases h
theorem MB:∀{is:List Nat},lD l is=true->∀i∈is,∀v,nth l i≠some (some v):=by
 intro uT;induction uT with
 |nil=>intro _ i hi v;cases hi
 |cons j is aQ=>
  intro h i hi v;rw[DE]at h;cases q:jT l j with
  |false=>rw[q]at h;cases h
  |true=>
   rw[q]at h;rcases List.mem_cons.mp hi with rfl|hi;.exact yE q v
   .exact aQ h i hi v
noncomputable def Tg.is:Tg->List Nat
 |.n i=>[i]
 |.t is=>is
theorem MA{t:Tg}(h:gI l t=true):∀i∈t.is,∀v,nth l i≠some (some v):=by
 cases t with
 |n i=>
  intro j hj v;obtain rfl:j=i:=by simpa [Tg.is] using hj
  exact yE h v
 |t is=>exact MB h
section
variable {prog:Program}{w:World}{A:Around}{R:Result->Shared->Prop}{s:Shared}
theorem lC{elt target iter:Expr}{ifs:List Expr}{scope:Scope}{pos:Pos}{it acc:Value}{env:Env}(I:Nat->Shared->Prop)(turn:∀n s,I n s->wpAny (model prog w) A (pyNext it) (λr aO=>match r with
  |none=>R (.ok .next) aO
  |some v=>wpAny (model prog w) A (letOwnedTupleGo target it v) (λZ YQ=>wpAny (model prog w) A (assign target env v) (λZ bL=>
   wpAny (model prog w) A (forIn ifs true λc r=>if r=true then do let ok <- isTrue c env (eval c env);pure (ForInStep.yield ok) else pure (ForInStep.yield r)) (λok bU=>
    if ok=true then wpAny (model prog w) A (eval elt env) (λx kJ=>
     wpAny (model prog w) A (call (.builtin "list.append") [acc,x]) (λZ EK=>∃m,m<n/\I m EK) (λZ Z=>False) kJ) (λZ Z=>False) bU
    else ∃m,m<n/\I m bU) (λZ Z=>False) bL) (λZ Z=>False) YQ) (λZ Z=>False) aO) (λZ Z=>False) s)(n:Nat)(h:I n s):
 codeAny (model prog w) A (.compLoop (.ListComp elt [⟨target,iter,ifs,0⟩] scope pos) 0 it acc env) R s:=by
 refine codeAny_loop rfl I (λn s hI=>?_) n h;show wpAny _ A ((compTurn (.ListComp elt [⟨target,iter,ifs,0⟩] scope pos) 0 it acc env).onRaise (λx=>do noteFrame x env;theTreesLotGoes x)) _ _ s;refine wpAny_noted ?_;refine rwl (compTurn_list ..) ?_;refine wpAny_bind (wpAny_standAt (wpAny_bind (wpAny_mono (turn n s hI) (λr aO eW=>?_) λZ Z h'=>h'.elim)));cases r with
 |none=>exact wpAny_pure eW
 |some v=>
  refine wpAny_bind (wpAny_mono eW (λZ YQ aIe=>wpAny_bind (wpAny_mono aIe (λZ bL aCF=>wpAny_bind (wpAny_mono aCF (λok bU XC=>?_) λZ Z h'=>h'.elim)) λZ Z h'=>h'.elim)) λZ Z h'=>h'.elim);cases ok with
  |false=>exact wpAny_pure ⟨rfl,XC⟩
  |true=>exact wpAny_bind (wpAny_bind (wpAny_mono XC (λx kJ aK4=>wpAny_bind (wpAny_mono aK4 (λZ EK XB=>wpAny_pure (wpAny_pure ⟨rfl,XB⟩)) λZ Z h'=>h'.elim)) λZ Z h'=>h'.elim))
end
theorem nA{α β:Type}{r:RE α}{f:α->St->RE β}{b:β}(h:r.bind f=.ok b σ):∃a σ',r=.ok a σ'/\f a σ'=.ok b σ:=by
 refine aLJ λaA=>?_;cases r with
 |ok a s=>refine aA ?_;exact⟨a,s,rfl,h⟩
 |exc e s=>cases h
 |stuck=>cases h
theorem lI.ok{α β:Type}{R:Gh->α->β->Prop}{S l G}{r:RE α}{t:Sem β}{Q:β->Shared->Prop}{a:α}(h:lI R S l G r t s)(hr:r=.ok a σ)(k:∀G' x s',G.Le G'->Inv S.k S.P G' σ s'->FR S l G' s'.heap->R G' a x->Q x s'):wpAny S.k.M S.A t Q (λZ Z=>False) s:=by
 refine wpAny_mono (h (by rw[hr];intro q;cases q)) (λx s' p=>?_) λx s' p=>?_;.refine e35 p λv σ' G' h1 h2 h3 h4 h5=>?_;rw[hr]at h1;cases h1;exact k G' x s' h2 h3 h4 h5
 .refine e52 p λn σ' G' a d h1 r=>?_;rw[hr]at h1;cases h1
theorem TP{Cc:Cx}{scope:Scope}{cl:List (Str×Addr)}{C D it:Addr}{P:List (Addr×Obj)}{σ σf:St}{elt target iter:Expr}{ifs:List Expr}{pos:Pos}{tg:Tg}{is:List Nat}{ih:Ev}{ec:CE}{ics:List CE}{N:Nat}{av:St->Nat->Option V}{en:St->Prop}{Ot:Nat->Obj->Prop}{run:Nat->St->RE (List V)}{R:Result->Shared->Prop}{xf:List V}{aHI:Str->Option Value}{uX:Obj}(ok:S.OK)(hs:S.C.hs=false)(hcm:S.C.comp=false)(co:iA S.C Cc scope is)(hcl:∀x,(x,NameKind.free)∈scope.names->cl.lookup x=S.env.cells.lookup x)(io:MO S P C)(cur:Cur S.k S.A G it N av en Ot)(hb:∀S':Sit,S'.k=S.k->S'.C=Cc->S'.OK->aH S' (ih.e ec) elt/\cU (λe c=>dC S' (ih.e c) e) ifs ics/\TgR S' target tg)(clear:∀i∈is,∀v,nth l i≠some (some v))(r0:∀σ,run 0 σ≠.stuck->en σ/\run 0 σ=.ok [] σ)(r1:∀j σ,j<N->run (j+1) σ≠.stuck->∃v l',av σ (N-(j+1))=some v/\put l tg v=some l'/\run (j+1) σ=(iP ih l' ics σ).bind λb s=>sel b ((ih.e ec l' s).bind λx s=>(run j s).bind λxs s=>.ok (x::xs) s) (run j s))(back:∀G' σ' s',G.Le G'->Inv S.k P G' σ' s'->FR S l G' s'.heap)(I:Inv S.k P G σ s)(hn:s.heap.Ns C aHI)(loC:Lo S.k P G C)(loD:Lo S.k P G D)(loI:Lo S.k P G it)(hDC:D≠C)(hDI:D≠it)(hCI:C≠it)(h0:s.heap.get? it=some uX)(hO:Ot 0 uX)(hD:s.heap.get? D=some (dZ [] 0))(hr:run N σ=.ok xf σf)(hlen:xf.length<100000)(hR:∀s' G' ys n m',G.Le G'->Inv S.k P G' σf s'->s'.heap.Ns C m'->Lo S.k P G' C->Lo S.k P G' D->s'.heap.get? D=some (dZ ys n)->VRs G' xf ys->R (.ok .next) s'):
 codeAny S.k.M S.A (.compLoop (.ListComp elt [⟨target,iter,ifs,0⟩] scope pos) 0 (.ref it) (.ref D) (compEnvC scope cl C S.env)) R s:=by
 refine lC (λj s'=>j<=N/\∃σ' G' o pre ys n m,G.Le G'/\Inv S.k P G' σ' s'/\(∃xs,run j σ'=.ok xs σf/\xf=pre++xs)/\s'.heap.get? it=some o/\Ot (N-j) o/\s'.heap.get? D=some (dZ ys n)/\VRs G' pre ys/\
  s'.heap.Ns C m/\Lo S.k P G' C/\Lo S.k P G' D/\Lo S.k P G' it) ?_ N ⟨aLO _,σ,G,uX,[],[],0,aHI,.refl G,I,⟨xf,hr,rfl⟩,h0,by rw[Nat.sub_self];exact hO,hD,.nil,hn,loC,loD,loI⟩
 rintro j aO ⟨hj,aG,bB,o,pre,ys,n,m,L1,I1,⟨xs,e1,exf⟩,ho,hot,hd,vpre,hns,lc,ld,li⟩;obtain⟨rec0,hcls⟩:=(cur.rc hot);have hH:dL S.A bB:=.inl (ok.handled hs);have chg:∀{h':Heap}{tk:Nat},(∀b ob,b≠it->aO.heap.get? b=some ob->h'.get? b=some ob)->aO.toks<=tk->Inv S.k P bB aG { aO with heap:=h',toks:=tk }:=λhk ht=>by refine aLJ λaA=>e11 rec0.data λvs hd=>e14 rec0.cls λn q1 q2 q3 q4=>aA (I1.loose (a:=it) ⟨li.1,li.2.1,li.2.2,λo' e=>?_⟩ rfl rfl hk ht);rw[ho]at e;cases e;exact⟨.inl (by rw[q1];intro z;injection z with z;exact q3 z),.inl (by rw[q1];intro z;injection z with z;exact q4 z)⟩
 cases j with
 |zero=>obtain⟨hen,e2⟩:=(r0 aG (by rw[e1];intro q;cases q));refine cur.done hen L1 I1 ho (by rw[Nat.sub_zero]at hot;exact hot) λh' he=>aLJ λaA=>?_;have I':=chg (h':=h') (tk:=aO.toks) (λb ob hb e=>he b ob hb e) (aLO _);replace e1:=(e2)▸e1;cases e1;rw[List.append_nil]at exf;subst exf;exact aA (hR _ bB ys n m L1 I' (hns.extBut he hCI) lc ld (he _ _ hDI hd) vpre)
 |succ j=>
  refine aLJ λaA=>e23 (r1 j aG (BC hj) (by rw[e1];intro q;cases q)) λv l₂ hav hput e2=>?_;rw[e1]at e2;refine e22 (nA e2.symm) λb aJ et e3=>aA (cur.item (aAH hj) hav L1 I1 ho hot λx h' tk o' vx ho' hot' hsb htk=>?_);have I2:=chg (h':=h') (tk:=tk) (λb ob hb e=>(hsb.2 b hb).trans e) htk;obtain⟨rec',hcls'⟩:=(cur.rc hot');refine AU (s:={ aO with heap:=h',toks:=tk }) ho' hcls' rec'.data (aLJ λaA=>e11 (id rec'.data) λvs' hvs'=>e14 rec'.cls λcn hcn hcn1 hcn2 hcn3=>?_);have hd2:h'.get? D=some (dZ ys n):=(hsb.2 D hDI).trans hd;have hns2:h'.Ns C m:=hns.sameBut hsb hCI;have I3:Inv S.k ((it,o')::P) bB aG { aO with heap:=h',toks:=tk }:=I2.pinAny ho' li.1 li.2.2 (.inl (by rw[hcn];intro z;injection z with z;exact hcn1 z));have I3:Inv S.k ((D,dZ ys n)::(it,o')::P) bB aG { aO with heap:=h',toks:=tk }:=I3.pinAny hd2 ld.1 ld.2.2 (.inl (λz=>absurd (Value.type.inj z) (by decide)));have lc3:Lo S.k ((D,dZ ys n)::(it,o')::P) bB C:=⟨lc.1,λp hp=>by
   rcases List.mem_cons.mp hp with rfl|hp;.exact hDC
   .rcases List.mem_cons.mp hp with rfl|hp;.exact aMd hCI
    .exact lc.2.1 p hp,lc.2.2⟩
  have ok':=RQ (cl:=cl) ok hcm co ((io.cons (it,o')).cons (D,dZ ys n)) hcl;have F3:=RT (cl:=cl) (back bB aG _ L1 I2) co hcl clear hns2 lc3;refine e03 (hb (S.inner Cc scope cl C ((D,dZ ys n)::(it,o')::P)) rfl rfl ok') λge gt tr=>?_;have hs':(S.inner Cc scope cl C ((D,dZ ys n)::(it,o')::P)).C.hs=false:=by show Cc.hs=false;rw[co.hs];exact hs
  refine aA (yV ok' tr hput hs' I3 F3 vx λbL I4 F4=>(KC gt I4 F4 hH).ok et λeS b' bU L2 I5 F5 hb'=>?_);subst hb';have L12:=L1.trans L2;have after:∀{G' σ' s'},bB.Le G'->Inv S.k ((D,dZ ys n)::(it,o')::P) G' σ' s'->FR (S.inner Cc scope cl C ((D,dZ ys n)::(it,o')::P)) l₂ G' s'.heap->
   Inv S.k P G' σ' s'/\s'.heap.get? D=some (dZ ys n)/\s'.heap.get? it=some o'/\(∃m',s'.heap.Ns C m')/\Lo S.k P G' C/\Lo S.k P G' D/\Lo S.k P G' it:=λ{G' σ' s'} LL J K=>by
   refine aLJ λaA=>?_;refine e03 (J.pinned' (aLQ _) (λes n q=>by cases q)) λd1 d2 d3=>?_;refine e03 (J.pinned' (aLM _ (aLQ _)) (λes n q=>by rw[hvs']at q;cases q)) λt1 t2 t3=>?_;refine e12 K.loc λm' hm' Z=>?_;exact aA (aIK J.unpin.unpin d1 t1 (⟨m',hm'⟩) (⟨K.lo.1,λp hp=>K.lo.2.1 p (aLM _ (aLM _ hp)),K.lo.2.2⟩) (⟨d2,ld.2.1,d3⟩) (⟨t2,li.2.1,t3⟩))
  have hNj:N-j=N-(j+1)+1:=aAG hj;cases b with
  |false=>refine rwl (if_neg (by decide) ..) (aLJ λaA=>?_);obtain⟨A1,A2,A3,AH,A5,A6,A7⟩:=after L2 I5 F5;obtain⟨m',A4⟩:=AH;exact aA ⟨j,Nat.lt_succ_self _,by exact nT hj,aJ,eS,o',pre,ys,n,m',L12,A1,⟨xs,e3,exf⟩,A3,by rw[hNj];exact hot',A2,vpre.mono L2,A4,A5,A6,A7⟩
  |true=>
   refine rwl (if_pos rfl ..) (aLJ λaA=>e22 (nA (show(ih.e ec l₂ aJ).bind (λx s=>(run j s).bind λxs s=>.ok (x::xs) s)=.ok xs σf from e3)) λy eB e4 e5=>e22 (nA e5) λxs' HC e6 e7=>?_);cases e7;refine aA ((ge I5 F5 (hH.mono L2)).ok e4 λeV z kJ L3 I6 F6 V6=>aLJ λaA=>?_);have L13:=L12.trans L3;obtain⟨A1,A2,A3,⟨m',A4⟩,A5,A6,A7⟩:=after (L2.trans L3) I6 F6;have hys:=(vpre.mono (L2.trans L3));have hl:=hys.length;refine aA ?_;refine wpAny_list_append_plain (items:=ys.toArray) (x:=z) ⟨n,A2⟩ (λXB hpl FU=>?_) (by
    have:pre.length<=xf.length:=by rw[exf,aMe];exact aFs
    rw[aLW];simp;exact aJV hlen hl this)
   refine e11 hpl λn' hpl=>?_;have hD5:XB.get? D=some (dZ (ys++[z]) n'):=by rw[hpl];simp[dZ]
   have I7:Inv S.k P eV eB { kJ with heap:=XB }:=by refine A1.loose (a:=D) ⟨A6.1,A6.2.1,A6.2.2,λo' e=>?_⟩ rfl rfl λb ob hb e=>(FU.2 b hb).trans e;rw[A2]at e;cases e;exact⟨.inl (λz=>absurd (Value.type.inj z) (by decide)),.inl (λz=>absurd (Value.type.inj z) (by decide))⟩
   exact⟨j,Nat.lt_succ_self _,by exact nT hj,eB,eV,o',pre++[y],ys++[z],n',m',L13,I7,⟨xs',e6,by rw[exf];simp⟩,(FU.2 it (aMd hDI)).trans A3,by rw[hNj];exact hot',hD5,hys.app' (.cons V6 .nil),A4.sameBut FU (aMd hDC),A5,A6,A7⟩
theorem FR.away{S l G}{h h':Heap}{C:Addr}(F:FR S l G h)(hk:∀b o,b≠C->h.get? b=some o->h'.get? b=some o)(h1:S.env.locals≠C)(h2:∀x c,S.C.kinds.lookup x=some .cell->S.env.cells.lookup x=some c->c≠C):FR S l G h':=by
 refine e12 F.loc λm yP hm'=>e33 yP λo es ep e hd r=>⟨⟨m,⟨o,es,ep,hk _ _ h1 e,hd,r⟩,hm'⟩,λx i v q1 q2 q3=>?_,F.lo,λhcm x hx=>?_,F.cellInj⟩;.exact e23 (F.cell x i v q1 q2 q3) λc y h4 AH h7=>e12 AH λoc h5 h6=>bM c y h4 (⟨oc,hk _ _ (h2 x c q2 h4) h5,h6⟩) h7
 .refine e23 (F.cellLo hcm x hx) λc v h4 AH h7=>aLJ λaA=>?_;obtain⟨oc,h5,h6⟩:=AH;exact aA (bM c v h4 (⟨oc,hk _ _ (h2 x c hx h4) h5,h6⟩) h7)
theorem FR.pinD{l G}{h:Heap}{t:Addr}{o:Obj}(F:FR S l G h)(h1:S.env.locals≠t)(h2:∀x c,S.C.kinds.lookup x=some .cell->S.env.cells.lookup x=some c->c≠t):FR (S.pin t o) l G h:=by
 have lo:∀a,Lo S.k S.P G a->t≠a->Lo S.k ((t,o)::S.P) G a:=λa x hne=>⟨x.1,λp hp=>by
  rcases List.mem_cons.mp hp with rfl|hp;.exact hne
  .exact x.2.1 p hp,x.2.2⟩
 exact⟨F.loc,F.cell,lo _ F.lo (aMd h1),λhc x hx=>(e23 (F.cellLo hc x hx) λc v q1 q2 q3=>bM c v q1 q2 (lo _ q3 (aMd (h2 x c hx q1)))),F.cellInj⟩
structure UH(k:Kit)(A:Around)(G:Gh)(it:Addr)(N:Nat)(av:St->Nat->Option V)(en:St->Prop)(Ot:Nat->Obj->Prop):Prop where
 cur:Cur k A G it N av en Ot
 self:∀{s:Shared}{o:Obj}{Q:Value->Shared->Prop}{E:Value->Shared->Prop},s.heap.get? it=some o->Ot 0 o->Q (.ref it) s->wpAny k.M A (pyIter (.ref it)) Q E s
section
variable {S:Sit}{Cc:Cx}{scope:Scope}{cl:List (Str×Addr)}{l:Loc}{elt target iter:Expr}{ifs:List Expr}{pos:Pos}{tg:Tg}{ih:Ev}{ec:CE}{ics:List CE}
def aDa(S:Sit)(P:List (Addr×Obj))(G:Gh)(xf:List V)(σf:St)(D C:Addr)(s':Shared):Prop:=
 ∃G' ys n m',G.Le G'/\Inv S.k P G' σf s'/\s'.heap.Ns C m'/\Lo S.k P G' C/\Lo S.k P G' D/\D≠C/\s'.heap.get? D=some (dZ ys n)/\VRs G' xf ys
theorem uD{P:List (Addr×Obj)}{σ σf:St}{it:Addr}{uX:Obj}{N:Nat}{av:St->Nat->Option V}{en:St->Prop}{Ot:Nat->Obj->Prop}{run:Nat->St->RE (List V)}{xf:List V}{RR:Value->Addr->Result->Shared->Prop}(ok:S.OK)(hs:S.C.hs=false)(hcm:S.C.comp=false)(co:iA S.C Cc scope tg.is)(hcl:∀x,(x,NameKind.free)∈scope.names->cl.lookup x=S.env.cells.lookup x)(hb:∀S':Sit,S'.k=S.k->S'.C=Cc->S'.OK->aH S' (ih.e ec) elt/\cU (λe c=>dC S' (ih.e c) e) ifs ics/\TgR S' target tg)(clear:gI l tg=true)(r0:∀σ,run 0 σ≠.stuck->en σ/\run 0 σ=.ok [] σ)(r1:∀j σ,j<N->run (j+1) σ≠.stuck->∃v l',av σ (N-(j+1))=some v/\put l tg v=some l'/\run (j+1) σ=(iP ih l' ics σ).bind λb s=>sel b ((ih.e ec l' s).bind λx s=>(run j s).bind λxs s=>.ok (x::xs) s) (run j s))(back:∀G' σ' s',G.Le G'->Inv S.k P G' σ' s'->FR S l G' s'.heap)(hL:∃o,(S.env.locals,o)∈P/\∃es n,o.data=.dict es n)(hsub:∀p∈S.P,p∈P)(hcells:∀x,S.C.kinds.lookup x=some .cell->∃c o v,S.env.cells.lookup x=some c/\(c,o)∈P/\o.data=.cell v)(cur:UH S.k S.A G it N av en Ot)(I:Inv S.k P G σ s)(h0:s.heap.get? it=some uX)(hO:Ot 0 uX)(loI:Lo S.k P G it)(hr:run N σ=.ok xf σf)(hlen:xf.length<100000)(hRR:∀D C s',s.heap.get? D=none->s.heap.get? C=none->aDa S P G xf σf D C s'->RR (.ref D) C (.ok .next) s'):
 wpAny S.k.M S.A (newList []) (λacc bU=>wpAny S.k.M S.A (newFunctionEnv scope S.env.globals cl [] S.env.qual none .none (some S.env)) (λcenv kJ=>
  codeAny S.k.M S.A (.compStart (.ListComp elt [⟨target,iter,ifs,0⟩] scope pos) 0 (.ref it) acc { cenv with scope:=relabel scope S.env }) (RR acc cenv.locals) kJ) E bU) E s:=by
 refine wpAny_newObj_type (wpAny_newFunctionEnv co.nocell (by intro y hy;simp at hy) (λeW SA FV=>?_) co.kind);generalize hH2:s.heap.push { cls:=.type "list",dict:=none,data:=.seq ([]:List Value).toArray }=H2 at SA FV|-;have hC:H2.objs.size=s.heap.objs.size+1:=by rw[<- hH2,Heap.size_push]
 have hDC:s.heap.objs.size≠H2.objs.size:=by rw[hC];exact aLT (Nat.lt_succ_self _)
 have below:∀b,b<s.heap.objs.size->b≠H2.objs.size:=λb hb=>by rw[hC];exact aLT (Nat.lt_succ_of_lt hb)
 have old:∀b o,s.heap.get? b=some o->eW.get? b=some o:=λb o e=>FV.extBut b o (below b (aL2 e)) (aLS _ (hH2▸aLS _ e));have hacc:eW.get? s.heap.objs.size=some (dZ [] 0):=FV.extBut _ _ hDC (aLS _ (hH2▸aL4 _ rfl));have fresh:∀a:Addr,s.heap.objs.size<=a->s.heap.get? a=none:=λa ha=>by
  cases q:s.heap.get? a with
  |none=>rfl
  |some o=>exact absurd (aL2 q) (Nat.not_lt.mpr ha)
 have lo':∀a:Addr,s.heap.objs.size<=a->Lo S.k P G a:=λa ha=>by
  refine⟨?_,λp hp e=>?_,λn ad e hx=>?_⟩
  .cases q:S.k.B.get? a with
   |none=>rfl
   |some o=>have:=I.base _ _ q;rw[fresh a ha]at this;cases this
  .obtain⟨sl,q,_⟩:=I.pins p hp;rw[e,fresh a ha]at q;cases q
  .obtain⟨_,_,o,q⟩:=I.own n ad e a hx;rw[fresh a ha]at q;cases q
 have hCle:s.heap.objs.size<=H2.objs.size:=by rw[hC];exact aLV _
 have J:Inv S.k P G σ { s with heap:=eW,toks:=s.toks+([]:List (Str×Value)).length }:=I.keeps rfl rfl old;have hit:s.heap.objs.size≠it:=(aLT (aL2 h0)).symm;have io:MO S P H2.objs.size:=⟨hL,hsub,hcells,by
  refine aLJ λaA=>?_;refine e12 ((back G σ s (.refl G) I).loc) λm yP u29=>?_;refine e32 yP λo es ep e u49=>?_;refine aA ?_;exact aL3 (aL0 ok.above (aLL (aL2 e) hCle))⟩
 have loop:codeAny S.k.M S.A (.compLoop (.ListComp elt [⟨target,iter,ifs,0⟩] scope pos) 0 (.ref it) (.ref s.heap.objs.size) (compEnvC scope cl H2.objs.size S.env)) (RR (.ref s.heap.objs.size) H2.objs.size) { s with heap:=eW,toks:=s.toks+([]:List (Str×Value)).length }:=
  TP ok hs hcm co hcl io cur.cur hb (MA clear) r0 r1 back J SA (lo' _ hCle) (lo' _ (aLO _)) loI hDC hit (below it (aL2 h0)).symm (old _ _ h0) hO hacc hr hlen λs' G' ys n m' L' I' hn' lc ld hd hv=>
   hRR _ _ s' (fresh _ (aLO _)) (fresh _ hCle) ⟨G',ys,n,m',L',I',hn',lc,ld,hDC,hd,hv⟩
 exact codeAny_compStart_list loop (cur.self (old _ _ h0) hO loop)
theorem aDe(ih:Ev)(l:Loc)(elt:CE)(tg:Tg)(ifs:List CE)(s:St):jC ih l elt tg ifs [] s=.ok [] s:=rfl
theorem mY(ih:Ev)(l:Loc)(elt:CE)(tg:Tg)(ifs:List CE)(v:V)(r:List V)(s:St):jC ih l elt tg ifs (v::r) s=eZ (put l tg v) λl'=>(iP ih l' ifs s).bind λb s=>sel b
 ((ih.e elt l' s).bind λx s=>(jC ih l elt tg ifs r s).bind λxs s=>.ok (x::xs) s) (jC ih l elt tg ifs r s):=rfl
theorem hU(ih:Ev)(l:Loc)(elt:CE)(tg:Tg)(ifs:List CE)(n i:Nat)(s:St):hY ih l elt tg ifs n 0 i s=aP s n .stuck λls=>sel (Nat.beq (bC ls) i) (.ok [] s) .stuck:=rfl
theorem hW(ih:Ev)(l:Loc)(elt:CE)(tg:Tg)(ifs:List CE)(n k i:Nat)(s:St):hY ih l elt tg ifs n (k+1) i s=aP s n .stuck λls=>eZ (nth ls i) λv=>eZ (put l tg v) λl'=>(iP ih l' ifs s).bind λb s=>sel b
 ((ih.e elt l' s).bind λx s=>(hY ih l elt tg ifs n k (i+1) s).bind λxs s=>.ok (x::xs) s) (hY ih l elt tg ifs n k (i+1) s):=by
 show(aP s n .stuck λls=>eZ (nth ls i) λv=>eZ (put l tg v) λl'=>(iP ih l' ifs s).bind λb s=>sel b
  ((ih.e elt l' s).bind λx s=>(fN (Nat.succ i) (hY ih l elt tg ifs n k) s).bind λxs s=>.ok (x::xs) s) (fN (Nat.succ i) (hY ih l elt tg ifs n k) s))=_
 simp only[tW]
set_option tactic.hygienic true in
theorem yC{P:List (Addr×Obj)}{σ σf:St}{v:V}{y:Value}{xf:List V}{RR:Value->Addr->Result->Shared->Prop}(ok:S.OK)(hs:S.C.hs=false)(hcm:S.C.comp=false)(co:iA S.C Cc scope tg.is)(hcl:∀x,(x,NameKind.free)∈scope.names->cl.lookup x=S.env.cells.lookup x)(hb:∀S':Sit,S'.k=S.k->S'.C=Cc->S'.OK->aH S' (ih.e ec) elt/\cU (λe c=>dC S' (ih.e c) e) ifs ics/\TgR S' target tg)(clear:gI l tg=true)(back:∀G' σ' s',G.Le G'->Inv S.k P G' σ' s'->FR S l G' s'.heap)(hL:∃o,(S.env.locals,o)∈P/\∃es n,o.data=.dict es n)(hsub:∀p∈S.P,p∈P)(hcells:∀x,S.C.kinds.lookup x=some .cell->∃c o v,S.env.cells.lookup x=some c/\(c,o)∈P/\o.data=.cell v)(I:Inv S.k P G σ s)(hV:VR G v y)(hr:gM ih l ec tg ics v σ=.ok xf σf)(hlen:xf.length<100000)(hRR:∀D C s',s.heap.get? D=none->s.heap.get? C=none->aDa S P G xf σf D C s'->RR (.ref D) C (.ok .next) s'):
 wpAny S.k.M S.A (pyIter y) (λit bL=>wpAny S.k.M S.A (newList []) (λacc bU=>wpAny S.k.M S.A (newFunctionEnv scope S.env.globals cl [] S.env.qual none .none (some S.env)) (λcenv kJ=>
  codeAny S.k.M S.A (.compStart (.ListComp elt [⟨target,iter,ifs,0⟩] scope pos) 0 it acc { cenv with scope:=relabel scope S.env }) (RR acc cenv.locals) kJ) E bU) E bL) E s:=by
 have hh:S.A.handled=none:=ok.handled hs;have fresh:s.heap.get? s.heap.objs.size=none:=lR _;have lo':Lo S.k P G s.heap.objs.size:=by
  refine⟨?_,λp hp e=>?_,λn ad e hx=>?_⟩
  .cases q:S.k.B.get? s.heap.objs.size with
   |none=>rfl
   |some o=>have:=I.base _ _ q;rw[fresh]at this;cases this
  .obtain⟨sl,q,_⟩:=I.pins p hp;rw[e,fresh]at q;cases q
  .obtain⟨_,_,o,q⟩:=I.own n ad e _ hx;rw[fresh]at q;cases q
 have keep:∀(o:Obj) b ob,s.heap.get? b=some ob->(s.heap.push o).get? b=some ob:=λo b ob e=>aLS _ e;have nw:∀{o:Obj},o.isFreed=false->∀D,(s.heap.push o).get? D=none->s.heap.get? D=none:=λ{o} Z D e=>by
  cases q:s.heap.get? D with
  |none=>rfl
  |some ob=>rw[keep o D ob q]at e;cases e
 have told:∀{vs:List V}{av:St->Nat->Option V}{Ot:Nat->Obj->Prop}{o:Obj},UH S.k S.A G s.heap.objs.size vs.length av (λZ=>True) Ot->(∀σ i,i<vs.length->av σ i=nth vs i)->Ot 0 o->o.isFreed=false->jC ih l ec tg ics vs σ=.ok xf σf->
  wpAny S.k.M S.A (newList []) (λacc bU=>wpAny S.k.M S.A (newFunctionEnv scope S.env.globals cl [] S.env.qual none .none (some S.env)) (λcenv kJ=>
  codeAny S.k.M S.A (.compStart (.ListComp elt [⟨target,iter,ifs,0⟩] scope pos) 0 (.ref s.heap.objs.size) acc { cenv with scope:=relabel scope S.env }) (RR acc cenv.locals) kJ) E bU) E { s with heap:=s.heap.push o }:=by
  intro vs av Ot o cur hav hO hf hrun;refine uD (run:=λj σ=>jC ih l ec tg ics (vs.drop (vs.length-j)) σ) ok hs hcm co hcl hb clear (λσ q=>?_) (λj σ hj q=>?_) back hL hsub hcells cur (I.keeps rfl rfl (keep o)) (aL4 _ hf) hO lo' (by show jC ih l ec tg ics (vs.drop (vs.length-vs.length)) σ=_;rw[Nat.sub_self];exact hrun) hlen
   λD C s' hD hC h=>hRR D C s' (nw hf D hD) (nw hf C hC) h
  .show True/\jC ih l ec tg ics (vs.drop (vs.length-0)) σ=_;rw[Nat.sub_zero,List.drop_length];exact⟨trivial,rfl⟩
  .have e:vs.drop (vs.length-(j+1))=vs[vs.length-(j+1)]'(qV hj)::vs.drop (vs.length-j):=by refine rwl (List.drop_eq_getElem_cons (qV hj) ..) ?_;congr 2;omega
   try dsimp only at q|-
   rw[e,mY]at q;refine rwl (e ..) (rwl (mY ..) ?_);refine e12 (dO q) λl' h1 h2=>?_;refine bM _ l' ?_ h1 h2;exact rwl (hav _ _ (qV hj) ..) (rwl (fA ..) (rwl (aLN (qV hj) ..) rfl))
 have n1:gM ih l ec tg ics v σ≠.stuck:=by rw[hr];intro q;cases q
 unfold gM at n1;refine aLJ λaA=>?_;split at n1
 .rename_i n;refine aA ?_;refine hV.ref_el λad d h1=>?_;refine aLJ λaA=>?_;obtain⟨ls,h2,e2⟩:=(cO n1);rw[e2,oR]at n1;have hr:hY ih l ec tg ics n (bC ls) 0 (bE σ n (.list ls))=.ok xf σf:=(oR ls (λls=>hY ih l ec tg ics n (bC ls) 0 (bE σ n (.list ls)))).symm.trans (e2.symm.trans hr);refine e24 (I.list h2 h1) λxs m h3 Z Z Z=>?_;refine aA ?_;refine wpAny_pyIter_list (dT.isList ⟨m,h3⟩) ?_;have hne:ad≠s.heap.objs.size:=aLT (aL2 h3);rw[aD]at hr;have cur:UH S.k S.A G s.heap.objs.size ls.length _ _ (aBd ad):=⟨JO (N:=ls.length) hh h1 hne,λ{s o Q E} ho hO h=>wpAny_pyIter_listiter (i:=0) ⟨o,ho,hO.1,hO.2⟩ h⟩;have N:Inv S.k P G σ { s with heap:=s.heap.push { cls:=.type "list_iterator",data:=.fields #[.ref ad,.int 0 0] } }:=I.keeps rfl rfl (keep _);refine uD (run:=λj σ=>hY ih l ec tg ics n j (ls.length-j) σ) ok hs hcm co hcl hb clear (λσ q=>?_) (λj σ hj q=>?_) back hL hsub hcells cur (N.again h2) (aL4 _ rfl) ⟨rfl,rfl⟩ lo' (by show hY ih l ec tg ics n ls.length (ls.length-ls.length) _=_;rw[Nat.sub_self];exact hr) hlen
   λD C s' hD hC h=>hRR D C s' (nw rfl D hD) (nw rfl C hC) h
  .try dsimp only at q|-
   rw[Nat.sub_zero,hU]at q;refine rwl (Nat.sub_zero ..) (rwl (hU ..) ?_);refine e12 (cO q) λls' h4 e4=>?_;rw[e4]at q;refine rwl (e4 ..) ?_;cases z:Nat.beq (bC ls') ls.length with
   |true=>exact⟨⟨ls',h4,by rw[<- aD];exact aLU z⟩,rfl⟩
   |false=>rw[z]at q;exact absurd rfl q
  .try dsimp only at q|-
   rw[hW]at q;refine rwl (hW ..) ?_;refine e12 (cO q) λls' h4 e4=>?_;rw[e4]at q|-;refine e12 (dO q) λv' h5 e5=>?_;rw[e5]at q;refine rwl (e5 ..) ?_;refine e12 (dO q) λl' h6 e6=>?_;refine rwl (e6 ..) ?_;refine bM v' l' ?_ h6 (by rw[show ls.length-(j+1)+1=ls.length-j by exact aAy hj]);unfold aP;rw[h4];exact h5
 .rename_i hnr;refine e12 (dO n1) λvs h2 e2=>?_;have hcv:gM ih l ec tg ics v σ=eZ (items σ v) λvs=>jC ih l ec tg ics vs σ:=by cases v<;>first|rfl|exact absurd rfl (hnr _)
  have hr:jC ih l ec tg ics vs σ=.ok xf σf:=e2.symm.trans (hcv.symm.trans hr);cases v with
  |tup l=>
   obtain rfl:=aLP h2;refine aA (hV.tup_el λad xs h3 h4 Z=>?_);have hne:ad≠s.heap.objs.size:=by obtain⟨ob,e,_⟩:=I.tups _ h3;exact aLT (aL2 e)
   exact wpAny_pyIter_tuple (I.tups _ h3) (told ⟨JL hh h3 h4 hne,λ{s o Q E} ho hO h=>wpAny_pyIter_tupleiter (i:=0) ⟨o,ho,hO.1,hO.2⟩ h⟩ (λZ Z Z=>rfl) ⟨rfl,rfl⟩ rfl hr)
  |str lc=>
   refine aA (hV.str_el λt Z=>aLJ λaA=>e02 (qN h2) λh5 h6=>?_);subst h6;have hall:(⟨lc.toArray⟩:Str).cps.all (· < 128)=true:=by rw[Array.all_eq_true'];intro c hc';exact decide_eq_true (h5 c (by simpa using hc'))
   have cur:UH S.k S.A G s.heap.objs.size (lc.map λc=>V.str [c]).length (λZ i=>(lc[i]?).map λc=>.str [c]) (λZ=>True) (NE lc t):=
    ⟨by rw[aLX];exact JM hh,λ{s o Q E} ho hO h=>wpAny_pyIter_striter_ascii (i:=0) ⟨o,ho,hO.1,hO.2⟩ h⟩
   exact aA (PySem.wpAny_pyIter_ascii hall (told cur (λZ i hi=>rwl (fA ..) (rwl (aL8 ..) rfl)) ⟨rfl,rfl⟩ rfl hr))
  |rng x y' z=>
   refine aA (aLJ λaA=>?_);obtain⟨t,aE,h3⟩:=hV.rng_inv;subst aE;obtain⟨h4,h5⟩:=(dN h2);obtain⟨h6,h7⟩:=(dN h5);refine e12 (bR h7) λn h8 h9=>e02 (dN h9) λh10 h11=>?_;obtain rfl:=aLP h11;obtain⟨hz,hsz⟩:=(qP h8);refine e31 (I.rngs _ h3) λt1 t2 t3 hrg=>?_;have hlim:n<100000:=aC.mp h10;refine aA ?_;have cur:UH S.k S.A G s.heap.objs.size (sR z n x).length (λZ i=>if i<n then some (.int (x+z*i)) else none) (λZ=>True) (wW x z n):=
    ⟨by rw[sQ];exact JN hh,λ{s o Q E} ho hO h=>by subst hO;exact wpAny_pyIter_rangeiter ho h⟩
   refine wpAny_pyIter_range hrg (wU (aC.mp h4) (aC.mp h6) hz hsz hlim) (told cur (λZ i hi=>?_) ?_ rfl hr);.exact rwl (AP ..) rfl
   .rw[wW,hsz];simp
  |_=>exact bV h2
end
section
variable {S:Sit}{Cc:Cx}{scope:Scope}{elt target iter:Expr}{ifs:List Expr}{pos:Pos}{tg:Tg}{ih:Ev}{f:Loc->St->RE V}{ec:CE}{ics:List CE}
theorem BQ{α β:Type}{r:RE α}{f:α->St->RE β}(h:r.noExc.bind f≠.stuck):∃a σ,r=.ok a σ/\r.noExc.bind f=f a σ:=by
 cases r with
 |ok a s=>exact⟨a,s,rfl,rfl⟩
 |exc e s=>exact absurd rfl h
 |stuck=>exact absurd rfl h
theorem yB{P:List (Addr×Obj)}{xf:List V}{σf:St}{D C:Addr}{s':Shared}(back:∀G' σ' s',G.Le G'->Inv S.k P G' σ' s'->Inv S.k S.P G' σ' s'/\FR S l G' s'.heap)(d:aDa S P G xf σf D C s')(hn:cZ σf xf≠.stuck):
 ∃v σ' G',cZ σf xf=.ok v σ'/\G.Le G'/\Inv S.k P G' σ' s'/\VR G' v (.ref D)/\(∃m,s'.heap.Ns C m)/\Lo S.k P G' C:=by
 refine e48 d λG' ys n m' L I hns lc ld hDC hd hv=>?_;unfold cZ at hn|-;refine e03 (bA hn) λh1 e1 h2=>?_;rw[e1,St.new_eq]at *;refine e03 (bA h2) λh3 e2 h4=>?_;refine rwl (e2 ..) ?_;have hl:xf.length<100000:=by have:=aC.mp h1;rw[aD]at this;exact this
 have J:=I.adopt (o:=.list xf) (aC.mp h3) ld ⟨_,hd⟩ ⟨rfl,ys,⟨n,hd⟩,hv.mono (G'.le_push _),by exact AY hl⟩;refine aIF (.ref σf.n) _ (G'.push (D,none)) rfl (L.trans (G'.le_push _)) J (.ref (a:=D) (d:=none) (by rw[I.size];exact G'.push_get _)) (⟨m',hns⟩) lc.1 lc.2.1 (λk ad e hx=>?_);rw[Gh.push]at e;rcases Nat.lt_or_ge k G'.φ.length with q|q;.rw[aL9 q]at e;exact lc.2.2 k ad e hx
 .replace e:=(aMa q)▸e;have:k-G'.φ.length=0:=by
   refine aLJ λaA=>?_;rcases Nat.eq_zero_or_pos (k-G'.φ.length) with z|z;.exact aA z
   .rw[List.getElem?_eq_none (show [(D,(none:Option Addr))].length<=_ from z)]at e;cases e
  replace e:=(this)▸e;obtain rfl:=aLP e;exact hDC (by simpa [bD] using hx:C=D).symm
theorem VW{h:Heap}{a:Addr}{m}(x:h.Ns a m):∃o es n,h.get? a=some o/\o.data=.dict es n:=e33 (x) λo es ep h1 h2 u59=>⟨o,es,ep,h1,h2⟩
theorem Inv.ns_away{k P G σ}{C:Addr}{m}{h':Heap}(I:Inv k P G σ s)(lo:Lo k P G C)(hns:s.heap.Ns C m)(hsb:Heap.SameBut C s.heap h'):Inv k P G σ { s with heap:=h' }:=by refine e32 (VW hns) λo es n ho hd=>I.loose (a:=C) (lo.loose λo' e=>?_) rfl rfl λb ob hb e=>(hsb.2 b hb).trans e;rw[ho]at e;cases e;exact⟨λxs n q=>(by rw[hd]at q;cases q),λvs q=>(by rw[hd]at q;cases q)⟩
theorem DD{l G}(ok:S.OK)(hcm:S.C.comp=false)(co:iA S.C Cc scope tg.is)(F:FR S l G s.heap):
 ∃cl,closureFor scope S.env=pure cl/\∀x,(x,NameKind.free)∈scope.names->cl.lookup x=S.env.cells.lookup x:=
 zN λx hx hf=>e22 (F.cellLo hcm x.1 (co.free x hx hf)) λc v h1 Z=>⟨c,h1⟩
theorem JD{J:Gh->St->Shared->Prop}(ok:S.OK)(hs:S.C.hs=false)(hcm:S.C.comp=false)(co:iA S.C Cc scope tg.is)(ga:∀ ⦃l G σ s⦄,J G σ s->FR S l G s.heap->dL S.A G->lI VR S l G (f l σ) (eval iter S.env) s)(hi:kY iter=true)(hb:∀S':Sit,S'.k=S.k->S'.C=Cc->S'.OK->aH S' (ih.e ec) elt/\cU (λe c=>dC S' (ih.e c) e) ifs ics/\TgR S' target tg):
 ∀ ⦃l G σ s⦄,J G σ s->FR S l G s.heap->dL S.A G->lI VR S l G (sel (gI l tg) ((f l σ).bind λx s=>(gM ih l ec tg ics x s).noExc.bind λxs s=>cZ s xs) .stuck) (eval (.ListComp elt [⟨target,iter,ifs,0⟩] scope pos) S.env) s:=by
 intro l G σ s I F H hn;refine e03 (bA hn) λhclr e0 hn=>?_;refine rwl (e0 ..) ?_;refine e12 (DD ok hcm co F) λcl hclos hcl=>?_;refine rwl (eval_ListComp ..) ?_;refine wpAny_comprehension_free (use:=none) rfl (pZ hi _) hclos co.kind co.names ((ga I F H).step hn (λZ Z p=>p) λv aG bB y aO e1 n1 L1 I1 F1 V1=>?_);refine rwl (e1 ..) ?_;refine e22 (BQ n1) λxf σf e2 e3=>?_;replace n1:=(e3)▸n1;refine rwl (e3 ..) ?_;refine e14 (F1.holdC ok I1) λX I' hL hcells back=>?_;have hlen:xf.length<100000:=by have:=aC.mp (bA n1).1;rw[aD]at this;exact this
 refine yC (RR:=λacc C=>compPost S.k.M S.A (PX S l G (cZ σf xf)) none (PQ S l G (cZ σf xf)) acc C) ok hs hcm co hcl hb hclr (λG' σ' s' L J=>(back G' σ' s' L J).2) ⟨_,List.mem_append_left _ hL.choose_spec.1,hL.choose_spec.2⟩ (λp hp=>List.mem_append_right _ hp) hcells I' V1 e2 hlen λD C s' hD hC d=>?_;refine aLJ λaA=>?_;obtain⟨v',σ',G',q1,q2,q3,q4,t79,q6⟩:=yB back d n1;obtain⟨m',q5⟩:=t79;refine aA ?_;refine⟨m',q5,λh' hsb=>?_⟩;refine e02 (back G' σ' _ q2 (q3.ns_away q6 q5 hsb)) λb1 b2=>?_;exact fH v' σ' G' q1 (L1.trans q2) b1 b2 q4
theorem aCI(ok:S.OK)(hs:S.C.hs=false)(hcm:S.C.comp=false)(co:iA S.C Cc scope tg.is)(ga:aH S f iter)(hi:kY iter=true)(hb:∀S':Sit,S'.k=S.k->S'.C=Cc->S'.OK->aH S' (ih.e ec) elt/\cU (λe c=>dC S' (ih.e c) e) ifs ics/\TgR S' target tg):
 aH S (λl s=>sel (gI l tg) ((f l s).bind λx s=>(gM ih l ec tg ics x s).noExc.bind λxs s=>cZ s xs) .stuck) (.ListComp elt [⟨target,iter,ifs,0⟩] scope pos):=
 JD (J:=Inv S.k S.P) ok hs hcm co ga hi hb
theorem HT{J:Gh->St->Shared->Prop}{x:Str}{i:Nat}{a:Expr}{g:Loc->St->RE V}{p':Pos}(ok:S.OK)(w:Wr S x i)(ga:∀ ⦃l G σ s⦄,J G σ s->FR S l G s.heap->dL S.A G->lI VR S l G (g l σ) (eval a S.env) s)(hsw:swapsWith a (some (.Name x p')) pos.line S.env=pure false):
 ∀ ⦃l G σ s⦄,J G σ s->FR S l G s.heap->dL S.A G->MM S G ((g l σ).bs l λv s=>eM (put l (.n i) v) λl=>.ok .next l s) (exec (.Assign [.Name x p'] a pos) S.env) s:=by
 intro l G σ s I F H hn;refine wpAny_Assign_Name ((ga I F H).stepS hn (λZ Z p=>p) λv aG bB y aO e1 n1 L1 I1 F1 V1=>?_) hsw;refine rwl (e1 ..) ?_;exact w.store ok I1 F1 V1 λs' I' F'=>PS.le L1 (dU I' F')
theorem aB9{x:Str}{i:Nat}{a:Expr}{g:Loc->St->RE V}{p':Pos}(ok:S.OK)(w:Wr S x i)(ga:aH S g a)(hsw:swapsWith a (some (.Name x p')) pos.line S.env=pure false):
 bT S (λl s=>(g l s).bs l λv s=>eM (put l (.n i) v) λl=>.ok .next l s) (exec (.Assign [.Name x p'] a pos) S.env):=
 HT (J:=Inv S.k S.P) ok w ga hsw
theorem HS{J:Gh->St->Shared->Prop}{x:Str}{i:Nat}{p' spos:Pos}(ok:S.OK)(hs:S.C.hs=false)(hcm:S.C.comp=false)(co:iA S.C Cc scope tg.is)(w:Wr S x i)(ga:∀ ⦃l G σ s⦄,J G σ s->FR S l G s.heap->dL S.A G->lI VR S l G (f l σ) (eval iter S.env) s)(hi:kY iter=true)(hb:∀S':Sit,S'.k=S.k->S'.C=Cc->S'.OK->aH S' (ih.e ec) elt/\cU (λe c=>dC S' (ih.e c) e) ifs ics/\TgR S' target tg)(hsw:swapsWith (.ListComp elt [⟨target,iter,ifs,0⟩] scope pos) (some (.Name x p')) spos.line S.env=pure true):
 ∀ ⦃l G σ s⦄,J G σ s->FR S l G s.heap->dL S.A G->MM S G ((sel (gI l tg) ((f l σ).bind λx s=>(gM ih l ec tg ics x s).noExc.bind λxs s=>cZ s xs) .stuck).bs l λv s=>eM (put l (.n i) v) λl=>.ok .next l s)
  (exec (.Assign [.Name x p'] (.ListComp elt [⟨target,iter,ifs,0⟩] scope pos) spos) S.env) s:=by
 intro l G σ s I F H hn;have hn0:sel (gI l tg) ((f l σ).bind λx s=>(gM ih l ec tg ics x s).noExc.bind λxs s=>cZ s xs) .stuck≠.stuck:=λq=>hn (by rw[q];rfl);refine e03 (bA hn0) λhclr e0 hn0=>?_;rw[e0]at hn;refine rwl (e0 ..) ?_;refine e12 (DD ok hcm co F) λcl hclos hcl=>?_;refine rwl (exec_Assign_Name_used _ _ _ _ hsw ..) ?_;refine wpAny_bind (wpAny_standAt (wpAny_bind ?_));generalize hR:(((f l σ).bind λx s=>(gM ih l ec tg ics x s).noExc.bind λxs s=>cZ s xs).bs l λv s=>eM (put l (.n i) v) λl=>RS.ok .next l s)=R at hn|-;refine wpAny_bind (wpAny_mono (wpAny_comprehension_free (E:=PSX S G R) (use:=some (assign (.Name x p') S.env)) (Q:=λZ s'=>PS S G R .next s') rfl (pZ hi _) hclos co.kind co.names ?_) (λZ s' hq=>wpAny_pure (wpAny_pure hq)) λZ Z e=>e);refine(ga I F H).step hn0 (λZ Z p=>?_) λv aG bB y aO e1 n1 L1 I1 F1 V1=>?_;.have p':=p.bs (f:=λv s=>eM (put l (.n i) v) λl=>RS.ok .next l s);rw[hR]at p';exact p'
 refine aLJ λaA=>?_;rw[e1]at hR;refine e22 (BQ n1) λxf σf e2 e3=>?_;rw[e3]at n1 hR;refine e14 (F1.holdC ok I1) λX I' hL hcells back=>?_;refine aA ?_;have hlen:xf.length<100000:=by have:=aC.mp (bA n1).1;rw[aD]at this;exact this
 refine yC (RR:=λacc C=>compPost S.k.M S.A (PSX S G R) (some (assign (.Name x p') S.env)) (λZ s'=>PS S G R .next s') acc C) ok hs hcm co hcl hb hclr (λG' σ' s' L J=>(back G' σ' s' L J).2) ⟨_,List.mem_append_left _ hL.choose_spec.1,hL.choose_spec.2⟩ (λp hp=>List.mem_append_right _ hp) hcells I' V1 e2 hlen λD C s' hD hC d=>?_;refine aLJ λaA=>?_;obtain⟨v',σ',G',q1,q2,q3,q4,t79,q6⟩:=yB back d n1;obtain⟨m',q5⟩:=t79;obtain⟨b1,b2⟩:=(back G' σ' _ q2 q3);rw[q1]at hR;have hR:RS.ok .next (bZ l i (some v')) σ'=R:=hR;refine aA ?_;refine e33 (id q5) λoC es ep hoC hdC hrest=>?_;have lL:S.env.locals≠C:=λq=>by refine e12 F1.loc λm yP u29=>e32 yP λo u19 u29 e u49=>?_;rw[q,hC]at e;cases e
 have lc:∀x c,S.C.kinds.lookup x=some .cell->S.env.cells.lookup x=some c->c≠C:=λx c h1 h2 q=>by refine e23 (F1.cellLo hcm x h1) λc' v h3 AH u49=>e12 AH λo h4 u29=>?_;rw[h2]at h3;cases h3;rw[q,hC]at h4;cases h4
 have loC:Lo S.k S.P G' C:=⟨q6.1,λp hp=>q6.2.1 p (List.mem_append_right _ hp),q6.2.2⟩;have J1:Inv S.k ((C,oC)::S.P) G' σ' s':=b1.pinAny hoC q6.1 q6.2.2 (.inr λvs q=>by rw[hdC]at q;cases q);have K1:FR (S.pin C oC) l G' s'.heap:=b2.pinD lL lc;refine assign_Name ((w.pin (t:=C) (o:=oC)).store (S:=S.pin C oC) ok.pin J1 K1 q4 λs'' J2 K2=>?_);refine e12 (J2.pins _ (aLQ _)) λsl hC2 Z=>?_;have hns2:s''.heap.Ns C m':=⟨_,es,ep,hC2,hdC,hrest⟩;refine⟨m',hns2,λh' hsb=>?_⟩;have J3:Inv S.k S.P G' σ' { s'' with heap:=h' }:=J2.unpin.ns_away loC hns2 hsb;have K3:FR S (bZ l i (some v')) G' h':=FR.away (C:=C) (K2.unpin) (λb ob hb e=>(hsb.2 b hb).trans e) lL lc;exact tY _ _ σ' G' hR.symm (L1.trans q2) J3 K3 .next
theorem aB7{x:Str}{i:Nat}{p' spos:Pos}(ok:S.OK)(hs:S.C.hs=false)(hcm:S.C.comp=false)(co:iA S.C Cc scope tg.is)(w:Wr S x i)(ga:aH S f iter)(hi:kY iter=true)(hb:∀S':Sit,S'.k=S.k->S'.C=Cc->S'.OK->aH S' (ih.e ec) elt/\cU (λe c=>dC S' (ih.e c) e) ifs ics/\TgR S' target tg)(hsw:swapsWith (.ListComp elt [⟨target,iter,ifs,0⟩] scope pos) (some (.Name x p')) spos.line S.env=pure true):
 bT S (λl s=>(sel (gI l tg) ((f l s).bind λx s=>(gM ih l ec tg ics x s).noExc.bind λxs s=>cZ s xs) .stuck).bs l λv s=>eM (put l (.n i) v) λl=>.ok .next l s)
  (exec (.Assign [.Name x p'] (.ListComp elt [⟨target,iter,ifs,0⟩] scope pos) spos) S.env):=
 HS (J:=Inv S.k S.P) ok hs hcm co w ga hi hb hsw
end
structure Ord(n:Nat)(lt:Nat->Nat->Bool):Prop where
 tot:∀i j,i<n->j<n->i≠j->lt i j=false->lt j i=true
 trans:∀i j k,i<n->j<n->k<n->lt i j=true->lt j k=true->lt i k=true
def uS(n:Nat)(lt:Nat->Nat->Bool)(cmp:Nat->Nat->(Bool->Shared->Prop)->Shared->Prop)(s:Shared):Prop:=∀i j C,i<n->j<n->C (lt i j) s->cmp i j C s
structure PA(n:Nat)(p:Array Nat):Prop where
 perm:p.toList.Perm (List.range n)
theorem PA.size{n p}(h:PA n p):p.size=n:=by have:=h.perm.length_eq;simpa using this
theorem PA.lt{n p}(h:PA n p){i:Nat}(hi:i<n):p.getD i 0<n:=by
 have hs:i<p.size:=by rw[h.size];exact hi
 have e:p.getD i 0=p[i]:=by simp[Array.getD,hs]
 refine rwl (e ..) ?_;have hm:p[i]∈p.toList:=by simp
 exact List.mem_range.mp (h.perm.mem_iff.mp hm)
theorem PA.ne{n p}(h:PA n p){i j:Nat}(hi:i<n)(hj:j<n)(hij:i≠j):p.getD i 0≠p.getD j 0:=by
 have hs:i<p.size:=by rw[h.size];exact hi
 have hs':j<p.size:=by rw[h.size];exact hj
 have e:p.getD i 0=p[i]:=by simp[Array.getD,hs]
 have e':p.getD j 0=p[j]:=by simp[Array.getD,hs']
 refine rwl (e ..) (rwl (e' ..) ?_);have nd:p.toList.Nodup:=h.perm.nodup_iff.mpr List.nodup_range;intro q;have h1:p.toList[i]'(by simpa using hs)=p.toList[j]'(by simpa using hs'):=by simpa using q
 rcases Nat.lt_or_gt_of_ne hij with z|z;.exact(List.pairwise_iff_getElem.mp nd) i j (by simpa using hs) (by simpa using hs') z h1
 .exact(List.pairwise_iff_getElem.mp nd) j i (by simpa using hs') (by simpa using hs) z h1.symm
theorem PA.start(n:Nat):PA n (List.toArray (List.range n)):=⟨by simp⟩
theorem PA.of{n p p'}(h:PA n p)(hp:p'.Perm p):PA n p':=⟨(Array.perm_iff_toList_perm.mp hp).trans h.perm⟩
theorem PA.rev{n p}(h:PA n p)(i j:Nat):PA n (kas_rev p i j):=h.of (mirror_perm _ _ _ _)
theorem PA.bub{n p}(h:PA n p)(i j:Nat):PA n (bubble p i j):=h.of (bubble_perm _ _ _)
def Up(lt:Nat->Nat->Bool)(p:Array Nat)(m:Nat):Prop:=∀i j,i<j->j<m->lt (p.getD i 0) (p.getD j 0)=true
def YI(lt:Nat->Nat->Bool)(p:Array Nat)(m:Nat):Prop:=∀i j,i<j->j<m->lt (p.getD j 0) (p.getD i 0)=true
section
variable {n:Nat}{lt:Nat->Nat->Bool}{cmp:Nat->Nat->(Bool->Shared->Prop)->Shared->Prop}{s:Shared}
theorem UB(ha:uS n lt cmp s){p:Array Nat}(hp:PA n p):∀(f m:Nat) (G:Nat->Shared->Prop),1<=m->m+f<=n->
 (∀m',m<=m'->m'<=m+f->(∀k,m<=k->k<m'->lt (p.getD k 0) (p.getD (k-1) 0)=false)->(m'<m+f->lt (p.getD m' 0) (p.getD (m'-1) 0)=true)->G m' s)->(kas_asc p f m).kasWp cmp G s:=by
 intro x9;induction x9 with
 |zero=>intro m G _ _ h;exact h m (aLO _) (aLO _) (λk h1 h2=>absurd h2 (xD h1)) (λq=>absurd q (aEd))
 |succ f aQ=>
  intro m G h1 hf h;refine((ha _ _ _ (hp.lt (aCj hf)) (hp.lt (aCk hf)) ?_):cmp (p.getD m 0) (p.getD (m-1) 0) (λc s'=>(if c=true then KasT.ret m else kas_asc p f (m+1)).kasWp cmp G s') s);cases q:lt (p.getD m 0) (p.getD (m-1) 0) with
  |true=>rw[if_pos rfl];exact h m (aLO _) (aAh) (λk h1 h2=>absurd h2 (xD h1)) (λZ=>q)
  |false=>
   refine rwl (if_neg (by decide) ..) (aQ (m+1) G (ZX) (aD0 hf) λm' h2 h3 h4 h5=>h m' (nT h2) (aAR h3) (λk h6 h7=>?_) λh6=>h5 (aJR h6));by_cases e:k=m;.rw[e];exact q
   .exact h4 k (aAf h6 e) h7
theorem YB(ho:Ord n lt)(ha:uS n lt cmp s){p:Array Nat}(hp:PA n p):∀(f m:Nat) (G:Array Nat×Nat×Nat->Shared->Prop),1<=m->m+f<=n->
 (∀m',m<=m'->m'<=m+f->(∀k,m<=k->k<m'->lt (p.getD k 0) (p.getD (k-1) 0)=true)->G (p,m',0) s)->(kas_desc f p m 0).kasWp cmp G s:=by
 intro x9;induction x9 with
 |zero=>intro m G _ _ h;exact h m (aLO _) (aLO _) (λk h1 h2=>absurd h2 (xD h1))
 |succ f aQ=>
  intro m G h1 hf h;show cmp (p.getD m 0) (p.getD (m-1) 0) (λc s'=>(if c=true then (if 0>0 then kas_desc f (kas_rev p (m-(0+1)) m) (m+1) 0 else kas_desc f p (m+1) 0)
   else KasT.ask (p.getD (m-1) 0) (p.getD m 0) λd=>if d=true then KasT.ret (p,m,0) else kas_desc f p (m+1) (0+1)).kasWp cmp G s') s
  have l1:=hp.lt (i:=m) (aCj hf);have l2:=hp.lt (i:=m-1) (aCk hf);refine ha _ _ _ l1 l2 ?_;cases q:lt (p.getD m 0) (p.getD (m-1) 0) with
  |true=>
   refine rwl (if_pos rfl ..) (rwl (if_neg (by decide) ..) (aQ (m+1) G (ZX) (aD0 hf) λm' h2 h3 h4=>h m' (nT h2) (aAR h3) λk h6 h7=>?_));by_cases e:k=m;.rw[e];exact q
   .exact h4 k (aAf h6 e) h7
  |false=>exact rwl (if_neg (by decide) ..) ((ha _ _ _ l2 l1 (rwl (ho.tot _ _ l1 l2 (hp.ne (aCj hf) (aCk hf) (aE1 h1)) q ..) (rwl (if_pos rfl ..) (h m (aLO _) (aAh) (λk h1 h2=>absurd h2 (xD h1)))))):cmp (p.getD (m-1) 0) (p.getD m 0) (λd s'=>(if d=true then KasT.ret (p,m,0) else kas_desc f p (m+1) (0+1)).kasWp cmp G s') s)
theorem HJ(ho:Ord n lt){p:Array Nat}(hp:PA n p){m:Nat}(h1:1<=m)(hu:Up lt p m):∀m',m<=m'->m'<=n->(∀k,m<=k->k<m'->lt (p.getD k 0) (p.getD (k-1) 0)=false)->Up lt p m':=by
 intro m';induction m' with
 |zero=>intro hm _ _ i j _ hj;exact absurd hj (HX)
 |succ m' ih=>
  intro hm hn hk;rcases Nat.lt_or_ge m' m with z|hm
  .obtain rfl:m=m'+1:=by exact aAg hm z
   exact hu
  have ih:=ih hm;have hu':=ih (nT hn) λk a b=>hk k a (IG b);intro i j hij hj;refine aLJ λaA=>?_;by_cases e:j=m'
  .subst e;have l1:=hp.lt (i:=j) (BC hn);have l2:=hp.lt (i:=j-1) (OO hn);have last:=ho.tot _ _ l1 l2 (hp.ne (BC hn) (OO hn) (aGX h1 hm)) (hk j hm (AW));by_cases e2:i=j-1;.refine aA ?_;rw[e2];exact last
   .exact aA (ho.trans _ _ _ (hp.lt (aDX hij hn)) l2 l1 (hu' i (j-1) (aAu hij e2) (aAx hij)) last)
  .exact aA (hu' i j hij (OJ hj e))
theorem LZ(ho:Ord n lt){p:Array Nat}(hp:PA n p){m:Nat}(h1:1<=m)(hu:YI lt p m):∀m',m<=m'->m'<=n->(∀k,m<=k->k<m'->lt (p.getD k 0) (p.getD (k-1) 0)=true)->YI lt p m':=by
 intro m';induction m' with
 |zero=>intro hm _ _ i j _ hj;exact absurd hj (HX)
 |succ m' ih=>
  intro hm hn hk;rcases Nat.lt_or_ge m' m with z|hm
  .obtain rfl:m=m'+1:=by exact aAg hm z
   exact hu
  have ih:=ih hm;have hu':=ih (nT hn) λk a b=>hk k a (IG b);intro i j hij hj;refine aLJ λaA=>?_;by_cases e:j=m'
  .subst e;have last:=hk j hm (AW);by_cases e2:i=j-1;.refine aA ?_;rw[e2];exact last
   .exact aA (ho.trans _ _ _ (hp.lt (BC hn)) (hp.lt (OO hn)) (hp.lt (aDX hij hn)) last (hu' i (j-1) (aAu hij e2) (aAx hij)))
  .exact aA (hu' i j hij (OJ hj e))
theorem iY(p:Array Nat)(i:Nat):p.getD i 0=p[i]?.getD 0:=by simp
theorem NN{p:Array Nat}{m:Nat}(hm:m<=p.size){k:Nat}(hk:k<m):(kas_rev p 0 m).getD k 0=p.getD (m-1-k) 0:=by refine rwl (iY ..) (rwl (iY ..) ?_);unfold kas_rev;exact rwl (getElem?_mirror_all hm ..) (rwl (if_pos ⟨Nat.zero_le _,hk⟩ ..) (rwl (Nat.zero_add ..) rfl))
theorem aCb{p:Array Nat}(hp:PA n p){m:Nat}(hm:m<=n)(hd:YI lt p m):Up lt (kas_rev p 0 m) m:=λi j hij hj=>rwl (NN (by rw[hp.size];exact hm) hj ..) (rwl (NN (by rw[hp.size];exact hm) (aHz hij hj) ..) (hd (m-1-j) (m-1-i) (aHy hij hj) (aJN hj)))
theorem TO(ho:Ord n lt)(ha:uS n lt cmp s){p:Array Nat}(hp:PA n p)(hn:1<=n){G:Nat×Array Nat->Shared->Prop}(h:∀m p',PA n p'->1<=m->m<=n->Up lt p' m->G (m,p') s):(kas_count n p).kasWp cmp G s:=by
 unfold kas_count;refine rwl (KasT.kasWp_bind ..) (UB ha hp (n-1) 1 _ (aLO _) (aE2 hn) λm h1 h2 h3 h4=>?_);have up1:Up lt p 1:=λi j hij hj=>absurd hj (aFQ hij);have up:=HJ ho hp (aLO 1) up1 m h1 (by omega) h3;by_cases e1:(m == n)=true;.rw[if_pos e1];exact h m p hp h1 (by omega) up
 .refine rwl (if_neg e1 ..) ?_;have hmn:m<n:=by have:m≠n:=λq=>e1 (by rw[q];exact beq_self_eq_true _);omega
  by_cases e2:m>1;.exact rwl (if_pos e2 ..) ((ha _ _ _ (hp.lt (aE3 hn)) (hp.lt (aFZ hmn)) (rwl (up 0 (m-1) (aEw e2) (aEv e2) ..) (rwl (if_pos rfl ..) (h m p hp h1 (aFW hmn) up)))):cmp (p.getD 0 0) (p.getD (m-1) 0) (λc s'=>(if c=true then KasT.ret (m,p) else kas_descPart m n (kas_rev p 0 m)).kasWp cmp G s') s)
  .refine rwl (if_neg e2 ..) ?_;obtain rfl:m=1:=aE0 h1 e2;unfold kas_descPart;rw[KasT.kasWp_bind];refine YB ho ha hp (n-(1+1)) (1+1) _ (oo9) (aE4 hmn) λm' h5 h6 h7=>((rwl (if_neg (by decide) ..) ?_):(if 0>0 then kas_tail3 m' n (kas_rev p (m'-(0+1)) m') else kas_tail3 m' n p).kasWp cmp G s);have d2:YI lt p 2:=λi j hij hj=>by obtain rfl:i=0:=aFV hij hj;obtain rfl:j=1:=aEH hj hij;exact h4 (by omega)
   have d:=LZ ho hp (aKS) d2 m' h5 (aAO hmn h6) h7;have u:=aCb hp (aAO hmn h6) d;unfold kas_tail3;rw[KasT.kasWp_bind];exact UB ha (hp.rev 0 m') (n-m') m' _ (ZZ h5) (aGY hmn h6) λm'' h8 h9 h10 h11=>h m'' _ (hp.rev 0 m') (aGZ h5 h8) (by omega) (HJ ho (hp.rev 0 m') (ZZ h5) u m'' h8 (by omega) h10)
theorem NS(ho:Ord n lt)(ha:uS n lt cmp s){p:Array Nat}(hp:PA n p){k:Nat}(hk:k<n)(hu:Up lt p k){G:Nat->Shared->Prop}(h:∀l,l<=k->(∀i,i<l->lt (p.getD i 0) (p.getD k 0)=true)->(∀i,l<=i->i<k->lt (p.getD k 0) (p.getD i 0)=true)->G l s):
 ∀(f l r:Nat),l<=r->r<=k->r-l<=f->(∀i,i<l->lt (p.getD i 0) (p.getD k 0)=true)->(∀i,r<=i->i<k->lt (p.getD k 0) (p.getD i 0)=true)->(kas_place p k f l r).kasWp cmp G s:=by
 intro x9;induction x9 with
 |zero=>intro l r h1 h2 h3 h4 h5;exact h l (aAQ h1 h2) h4 λi a b=>h5 i (aJZ h3 a) b
 |succ f aQ=>
  intro l r h1 h2 h3 h4 h5;dsimp only[kas_place];by_cases e:l>=r;.rw[if_pos e];exact h l (aAQ h1 h2) h4 λi a b=>h5 i (aG5 e a) b
  .refine rwl (if_neg e ..) ?_;have b1:(l+r) / 2<r:=aFd e;have b2:l<=(l+r) / 2:=aFc e;refine(?_:cmp (p.getD k 0) (p.getD ((l+r) / 2) 0) (λc s'=>(if c=true then kas_place p k f l ((l+r) / 2) else kas_place p k f ((l+r) / 2+1) r).kasWp cmp G s') s);have l1:=hp.lt hk;have l2:=hp.lt (i:=(l+r) / 2) (aD6 hk h2 b1);refine ha _ _ _ l1 l2 ?_;cases q:lt (p.getD k 0) (p.getD ((l+r) / 2) 0) with
   |true=>
    refine rwl (if_pos rfl ..) (aQ l ((l+r) / 2) b2 (aG9 h2 b1) (aJY h3) h4 λi a b=>?_);by_cases e2:i=(l+r) / 2;.rw[e2];exact q
    .exact ho.trans _ _ _ l1 l2 (hp.lt (OU hk b)) q (hu _ _ (aJ9 a e2) b)
   |false=>
    refine rwl (if_neg (by decide) ..) ?_;have q':=ho.tot _ _ l1 l2 (hp.ne hk (aD6 hk h2 b1) (aG8 h2 b1)) q;refine aQ ((l+r) / 2+1) r (aG3 b1) h2 (aJX h3) (λi a=>?_) h5;by_cases e2:i=(l+r) / 2;.rw[e2];exact q'
    .exact ho.trans _ _ _ (hp.lt (aKA hk h2 b1 a)) l2 l1 (hu _ _ (aJW a e2) (aHa h2 b1)) q'
theorem aCZ(ho:Ord n lt){p:Array Nat}(hp:PA n p){k l:Nat}(hk:k<n)(hl:l<=k)(hu:Up lt p k)(h1:∀i,i<l->lt (p.getD i 0) (p.getD k 0)=true)(h2:∀i,l<=i->i<k->lt (p.getD k 0) (p.getD i 0)=true):Up lt (bubble p k (k-l)) (k+1):=by
 have hs:k<p.size:=by rw[hp.size];exact hk
 have hb:∀j,(bubble p k (k-l)).getD j 0=if j=l then p.getD k 0 else if l<j/\j<=k then p.getD (j-1) 0 else p.getD j 0:=λj=>by
  rw[iY (bubble p k (k-l)) j,getElem?_bubble hs _ (aGm),show k-(k-l)=l by exact aFn hl];by_cases e1:j=l;.rw[if_pos e1,if_pos e1];exact(iY _ _).symm
  .refine rwl (if_neg e1 ..) (rwl (if_neg e1 ..) ?_);by_cases e2:l<j/\j<=k;.rw[if_pos e2,if_pos e2];exact(iY _ _).symm
   .rw[if_neg e2,if_neg e2];exact(iY _ _).symm
 intro i j hij hj;refine rwl (hb ..) (rwl (hb ..) ?_);by_cases e1:i=l;.exact rwl (if_pos e1 ..) (rwl (if_neg (aJO hij e1) ..) (rwl (if_pos (aKp hij hj e1) ..) (h2 (j-1) (aJP hij e1) (aCi hij hj))))
 .refine rwl (if_neg e1 ..) ?_;by_cases e2:l<i/\i<=k;.exact rwl (if_pos e2 ..) (rwl (if_neg (aKm hij e2) ..) (rwl (if_pos (aKo hij hj e2) ..) (hu _ _ (aKn hij e2) (aCi hij hj))))
  .refine rwl (if_neg e2 ..) ?_;by_cases e3:j=l;.rw[if_pos e3];exact h1 i (aAW hij e3)
   .refine rwl (if_neg e3 ..) ?_;by_cases e4:l<j/\j<=k;.exact rwl (if_pos e4 ..) (hu _ _ (aKl hij e1 e2 e4) (aCi hij hj))
    .rw[if_neg e4];exact hu _ _ hij (aG6 hl hj e3 e4)
theorem aC0(ho:Ord n lt)(ha:uS n lt cmp s){G:Array Nat->Shared->Prop}(h:∀p',PA n p'->Up lt p' n->G p' s):∀(f:Nat) (p:Array Nat) (k:Nat),PA n p->k+f=n->Up lt p k->(kas_bin f p k).kasWp cmp G s:=by
 intro x9;induction x9 with
 |zero=>intro p k hp hf hu;exact h p hp (by rw[<- hf];exact hu)
 |succ f aQ=>intro p k hp hf hu;dsimp only[kas_bin];refine rwl (KasT.kasWp_bind ..) ?_;refine NS ho ha hp (uY hf) hu (λl hl h1 h2=>?_) k 0 k (Nat.zero_le _) (aLO _) (aEQ) (λi a=>absurd a (HX)) (λi a b=>absurd b (xD a));exact aQ _ (k+1) (hp.bub _ _) (yX hf) (aCZ ho hp (uY hf) hl hu h1 h2)
theorem VE(ho:Ord n lt)(ha:uS n lt cmp s)(hn:1<=n){G:Array Nat->Shared->Prop}(h:∀p,PA n p->Up lt p n->G p s):(kas_sort n).kasWp cmp G s:=by
 unfold kas_sort;refine rwl (KasT.kasWp_bind ..) (TO ho ha (PA.start n) hn λm p' hp h1 h2 hu=>?_);by_cases e:m<n;.refine rwl (if_pos e ..) ?_;rw[show max m 1=m by omega];exact aC0 ho ha h _ p' m hp (aF1 e) hu
 .exact rwl (if_neg e ..) (h p' hp (aFm h2 e▸hu))
end
section
variable {prog:Program}{w:World}{A:Around}{E:Value->Shared->Prop}{s:Shared}
def gK(lt:Nat->Nat->Bool)(vs out:List Value):Prop:=∃p,PA vs.length p/\Up lt p vs.length/\out=p.toList.map λi=>vs.getD i Value.none
def DX(prog:Program)(w:World)(vs:List Value)(lt:Nat->Nat->Bool)(h:Heap):Prop:=
 2<=vs.length->∀(A:Around) (s:Shared),(∀b o,h.get? b=some o->s.heap.get? b=some o)->∃κ,(∀(Q:SortKind->Shared->Prop) (E:Value->Shared->Prop),Q κ s->wpAny (model prog w) A (keyKind' vs.toArray) Q E s)/\uS vs.length lt (kas_ask prog w A κ vs) s
theorem gK.length{lt vs out}(h:gK lt vs out):out.length=vs.length:=e13 h λp h1 Z fK=>rwl fK (rwl (aLX ..) (rwl (Array.length_toList ..) (rwl (h1.size ..) rfl)))
theorem gK.small{lt:Nat->Nat->Bool}{vs:List Value}(h:vs.length<2):gK lt vs vs:=by
 refine⟨_,PA.start _,λi j hij hj=>absurd hj (aJU h hij),?_⟩;cases vs with
 |nil=>rfl
 |cons v l=>
  cases l with
  |nil=>rfl
  |cons w l=>exact absurd h (by simp)
theorem mH{a:Addr}{vs:List Value}{lt:Nat->Nat->Bool}{h₀:Heap}{P:PySem.Fin->Shared->Prop}(ho:s.heap.get? a=some (seqObj "list" vs.toArray n))(h64:vs.length<64)(hord:Ord vs.length lt)(hk:DX prog w vs lt h₀)(h0:∀b o,h₀.get? b=some o->b≠a/\s.heap.get? b=some o)(h:∀(out:List Value) h' m,gK lt vs out->h'.get? a=some (seqObj "list" out.toArray m)->(∀b o,b≠a->s.heap.get? b=some o->h'.get? b=some o)->P (.done (.ret .none)) { s with heap:=h' }):
 wpAny (model prog w) A (Builtin.«list.sort» ⟨[.ref a],[]⟩) P E s:=by
 have h2':∀out:Array Value,gK lt vs out.toList->P (.done (.ret .none)) { s with heap:=sortedHeap s.heap a vs out }:=λout hs=>by refine e11 (sortedHeap_at (out:=out) ho) λe he=>h out.toList _ e hs (by rw[Array.toArray_toList];exact he) λb o hb q=>?_;rw[sortedHeap_old hb (aL2 q)];exact q
 refine rwl (list_sort_plain ..) ?_;have ha:a<s.heap.objs.size:=aL2 ho;refine wpAny_bind (listItems_at ho rfl ?_);refine wpAny_bind (listUpdate_at ho rfl ?_ (by rw[List.size_toArray,sizeLine_eq];exact xB h64) (Nat.zero_le _));obtain⟨e1,ho1⟩:∃e1,(s.heap.update a (Obj.mapSeq λZ=>#[])).get? a=some (seqObj "list" #[] e1):=⟨_,get?_update_seq ho (λZ=>#[])⟩;refine wpAny_bind (seqEpoch_at ho1 rfl ?_);refine wpAny_bind (wpAny_newTuple ?_ (by show vs.length<=_;rw[sizeLine_eq];exact xB h64));refine wpAny_bind (wpAny_newList ?_ (Nat.zero_le _));refine wpAny_holding ?_;have ho6:(((s.heap.update a (Obj.mapSeq λZ=>#[])).push (seqObj "tuple" vs.toArray 0)).push (seqObj "list" #[] 0)).get? a=some (seqObj "list" #[] e1):=rwl (Heap.get?_push_ne _ _ _ (by rw[size_push',Heap.size_update];exact aLT (Nat.lt_succ_of_lt ha)) ..) (rwl (Heap.get?_push_ne _ _ _ (by rw[Heap.size_update];exact aLT ha) ..) ho1);refine(?_:wpAny (model prog w) A _ P E { s with heap:=((s.heap.update a (Obj.mapSeq λZ=>#[])).push (seqObj "tuple" vs.toArray 0)).push (seqObj "list" #[] 0) });dsimp only;have hsz:vs.toArray.size=vs.length:=by simp
 by_cases h2:vs.toArray.size<2;.refine rwl (if_pos h2 ..) (rwl (if_pos h2 ..) ?_);refine wpAny_bind (wpAny_pure ?_);refine rwl (StateT.run_pure ..) ?_;refine wpAny_bind (wpAny_pure ?_);dsimp only;refine wpAny_bind (seqEpoch_at ho6 rfl ?_);refine wpAny_bind (listUpdate_at ho6 rfl ?_ (Nat.zero_le _) (by rw[Array.size_map];show(pairsOf vs).size<=_;rw[pairsOf_size,sizeLine_eq];exact aFA hsz h2));simp only[bne_self_eq_false,Bool.false_eq_true,if_false];refine wpAny_pure (h2' _ ?_);have e:((arrOf (SortSt.mk' general' (vs.toArray.zip vs.toArray) #[] 7 none)).map (·.2)).toList=vs:=rwl (Array.toList_map ..) (rwl (Array.toList_zip ..) (List.map_snd_zip (aLO _)));refine rwl (show(Array.map (λx=>x.2) (arrOf (SortSt.mk' general' (vs.toArray.zip vs.toArray) #[] 7 none))).toList=vs from e ..) ?_;exact gK.small (by omega)
 .refine rwl (if_neg h2 ..) (rwl (if_neg h2 ..) ?_);obtain⟨κ,k1,k2⟩:=hk (aAk hsz h2) A { s with heap:=((s.heap.update a (Obj.mapSeq λZ=>#[])).push (seqObj "tuple" vs.toArray 0)).push (seqObj "list" #[] 0) } λb o e=>e02 (h0 b o e) λq1 q2=>aLS _ (aLS _ ((Heap.get?_update_ne _ _ _ _ q1).trans q2));refine wpAny_bind (k1 _ _ ?_);refine wpAny_bind (wpAny_mono (kat_run (ks:=vs) (vs:=vs) (G:=λp s'=>s'={ s with heap:=((s.heap.update a (Obj.mapSeq λZ=>#[])).push (seqObj "tuple" vs.toArray 0)).push (seqObj "list" #[] 0) }/\PA vs.length p/\Up lt p vs.length)
   (Q:=λst' s'=>s'={ s with heap:=((s.heap.update a (Obj.mapSeq λZ=>#[])).push (seqObj "tuple" vs.toArray 0)).push (seqObj "list" #[] 0) }/\failedOf st'=none/\gK lt vs ((arrOf st').map (·.2)).toList) rfl (aAk hsz h2) h64
   (λp st' s' a1 a2 a3 a4=>?_) (VE hord k2 (aFz hsz h2) λp hp hu=>⟨rfl,hp,hu⟩)) ?_ λZ Z e=>e)
  .refine⟨a4.1,a3,p,a4.2.1,a4.2.2,?_⟩;exact rwl (kat_snds rfl a2 ..) rfl
  .rintro⟨⟨⟩,st'⟩ s' ⟨rfl,hf,hs⟩;refine wpAny_bind (seqEpoch_at ho6 rfl ?_);refine wpAny_bind (listUpdate_at ho6 rfl ?_ (Nat.zero_le _) (by
    have:=hs.length;replace this:=(Array.length_toList)▸this;refine aL1 (Nat.le_of_eq this) ?_;rw[sizeLine_eq];exact aEB h64))
   refine rwl (hf ..) ?_;simp only[bne_self_eq_false,Bool.false_eq_true,if_false];exact wpAny_pure (h2' _ hs)
theorem AK{l:Addr}{vs:List Value}{lt:Nat->Nat->Bool}(hl:s.heap.IsList l vs.toArray)(h64:vs.length<64)(hord:Ord vs.length lt)(hk:DX prog w vs lt s.heap)(h:∀(out:List Value) D h' m,gK lt vs out->s.heap.get? D=none->h'.get? D=some (dZ out m)->(∀b o,s.heap.get? b=some o->h'.get? b=some o)->Q (.ref D) { s with heap:=h' }):
 wpAny (model prog w) A (call (.builtin "sorted") [.ref l]) Q E s:=by
 refine Calls.call_function_entry kind_sorted plain_sorted entry_sorted (args_sorted1 _) ?_;unfold Builtin.«sorted»;refine wpAny_bind (m:=checkCount "sorted" 1 1 _) (wpAny_pure ?_);refine wpAny_bind (collect_list hl ?_ (by rw[sizeLine_eq];exact xB h64));refine wpAny_bind (wpAny_newList ?_ (by rw[sizeLine_eq];exact xB h64));have hsz:((s.heap.push (seqObj "list" #[] 0)).update s.heap.objs.size (Obj.mapSeq (·++vs.toArray))).objs.size=s.heap.objs.size+1:=rwl (Heap.size_update ..) (rwl (size_push' ..) rfl);have hoL:(((s.heap.push (seqObj "list" #[] 0)).update s.heap.objs.size (Obj.mapSeq (·++vs.toArray))).push (seqObj "list" vs.toArray 0)).get? (s.heap.objs.size+1)=some (seqObj "list" vs.toArray 0):=by rw[<- hsz];exact aL4 _ rfl
 have keep:∀b o,s.heap.get? b=some o->(((s.heap.push (seqObj "list" #[] 0)).update s.heap.objs.size (Obj.mapSeq (·++vs.toArray))).push (seqObj "list" vs.toArray 0)).get? b=some o:=λb o q=>by have hlt:b<s.heap.objs.size:=aL2 q;exact rwl (Heap.get?_push_ne _ _ _ (by rw[hsz];exact aLT (Nat.lt_succ_of_lt hlt)) ..) (rwl (Heap.get?_update_ne _ _ _ _ (aLT hlt) ..) (rwl (Heap.get?_push_ne _ _ _ (aLT hlt) ..) q))
 refine(?_:wpAny _ _ _ _ _ { s with heap:=((s.heap.push (seqObj "list" #[] 0)).update s.heap.objs.size (Obj.mapSeq (·++vs.toArray))).push (seqObj "list" vs.toArray 0) });refine rwl (hsz ..) ?_;have ne:∀b o,s.heap.get? b=some o->b≠s.heap.objs.size+1:=λb o e=>aLT (Nat.lt_succ_of_lt (aL2 e));refine wpAny_bind (wpAny_holding (wpAny_call_entry slot_list_sort ⟨_,hoL,rfl⟩ entry_list_sort (mH (h₀:=s.heap) hoL h64 hord hk (λb o e=>⟨ne b o e,keep b o e⟩) λout h' m hs hat hk'=>⟨_,rfl,?_⟩) (args_list_sort _)));refine wpAny_pure ⟨_,rfl,h out _ h' m hs ?_ hat λb o e=>hk' b o (ne b o e) (keep b o e)⟩;cases q:s.heap.get? (s.heap.objs.size+1) with
 |none=>rfl
 |some o=>exact absurd (aL2 q) (Nat.not_lt.mpr (aLV _))
theorem EL{T:String}{r d:Addr}{P:Nat->Value->Prop}{OK:Heap->Prop}(K:KdlSrc prog w T r d n P OK)(hh:A.handled=none)(hok:OK s.heap)(h64:n<64)(lt:Nat->Nat->Bool)(hord:Ord n lt)(hk:∀vs:List Value,vs.length=n->(∀(j:Nat) (v:Value),vs[j]? = some v->P j v)->DX prog w vs lt s.heap)(h:∀(vs out:List Value) D h' m tk,vs.length=n->(∀(j:Nat) (v:Value),vs[j]? = some v->P j v)->gK lt vs out->s.heap.get? D=none->h'.get? D=some (dZ out m)->(∀b o,s.heap.get? b=some o->h'.get? b=some o)->Q (.ref D) { s with heap:=h',toks:=tk }):
 wpAny (model prog w) A (call (.builtin "sorted") [.ref r]) Q E s:=by
 refine call_function_entry kind_sorted plain_sorted entry_sorted (args_sorted1 _) ?_;unfold Builtin.«sorted»;refine wpAny_bind (m:=checkCount "sorted" 1 1 _) (wpAny_pure ?_);refine wpAny_bind (kdu_collect (A:=A.in1) K hh hok (by rw[sizeLine_eq];exact xB h64) λeW tk acc aBh hacc=>?_);have hl:acc.toList.length=n:=by rw[Array.length_toList];exact hacc.1
 have hP:∀(j:Nat) (v:Value),acc.toList[j]? = some v->P j v:=λj v e=>hacc.2 j v (by rw[<- Array.getElem?_toList];exact e);refine wpAny_bind (wpAny_newList ?_ (by rw[hl,sizeLine_eq];exact xB h64));have hoL:(eW.push (seqObj "list" acc.toList.toArray 0)).get? eW.objs.size=some (seqObj "list" acc.toList.toArray 0):=aL4 _ rfl;have ne:∀b o,s.heap.get? b=some o->b≠eW.objs.size:=λb o e=>aLT (aL2 (aBh b o e));have keep:∀b o,s.heap.get? b=some o->(eW.push (seqObj "list" acc.toList.toArray 0)).get? b=some o:=λb o e=>aLS _ (aBh b o e);refine(?_:wpAny _ _ _ _ _ { s with heap:=eW.push (seqObj "list" acc.toList.toArray 0),toks:=tk });refine wpAny_bind (wpAny_holding (wpAny_call_entry slot_list_sort ⟨_,hoL,rfl⟩ entry_list_sort (mH (h₀:=s.heap) (vs:=acc.toList) hoL (aF8 h64 hl) (by rw[hl];exact hord) (hk _ hl hP) (λb o e=>⟨ne b o e,keep b o e⟩) λout h' m hs hat hk'=>⟨_,rfl,?_⟩) (args_list_sort _)));refine wpAny_pure ⟨_,rfl,h acc.toList out _ h' m tk hl hP hs ?_ hat λb o e=>hk' b o (ne b o e) (keep b o e)⟩;cases q:s.heap.get? eW.objs.size with
 |none=>rfl
 |some o=>exact absurd rfl (ne _ _ q)
end
theorem AV{key:Nat->List Nat}(h:∀i j,i<n->j<n->i≠j->key i≠key j):Ord n λi j=>decide (key i<key j) where
 tot:=λi j hi hj hij q=>by
  have q:=of_decide_eq_false q;refine decide_eq_true ?_;rcases Decidable.em (key j<key i) with z|z;.exact z
  .exact absurd (List.le_antisymm (List.not_lt.mp z) (List.not_lt.mp q)) (h i j hi hj hij)
 trans:=λi j k Z Z Z h1 h2=>decide_eq_true (List.lt_trans (of_decide_eq_true h1) (of_decide_eq_true h2))
theorem FQ{w:World}{vs:List Value}{key:Nat->List Nat}{h:Heap}(hv:∀i,i<vs.length->∃t,vs[i]? = some (.str ⟨(key i).toArray⟩ t)):DX prog w vs (λi j=>decide (key i<key j)) h:=λh2 A s Z=>by
 refine⟨oneType',λQ E q=>?_,λi j C hi hj hc=>?_⟩;.refine kas_kind (T:=.type "str") h2 (λv hv'=>?_) rfl rfl q;obtain⟨i,hi,rfl⟩:=List.mem_iff_getElem.mp hv';obtain⟨t,e⟩:=(hv i hi);rw[aLN hi]at e;exact rwl (aLP e ..) (Looks.of_pure rfl)
 .refine e11 (hv i hi) λt e=>e11 (hv j hj) λu e'=>?_;unfold kas_ask;exact rwl (aL7 ..) (rwl (aL7 ..) (rwl (e ..) (rwl (e' ..) (rwl (keyLt'_oneType ..) (oneLt_str hc)))))
theorem FP{w:World}{vs:List Value}{key:Nat->List Nat}{h:Heap}(hne:∀i j,i<vs.length->j<vs.length->i≠j->key i≠key j)(hv:∀i,i<vs.length->∃a k t u,vs[i]? = some (.ref a)/\h.IsTuple a #[.str ⟨(key i).toArray⟩ t,.str k u]):DX prog w vs (λi j=>decide (key i<key j)) h:=λh2 A s hk=>by
 refine⟨tuples' true,λQ E q=>?_,λi j C hi hj hc=>?_⟩
 .have tup:∀(l:List Value),(∀v∈l,∃a x t k u,v=.ref a/\h.IsTuple a #[.str x t,.str k u])->∃fs,KatTups s.heap l fs/\fs.length=l.length/\∀v∈fs,∃x t,v=.str x t:=by
   intro l;induction l with
   |nil=>exactλZ=>⟨[],trivial,rfl,λv hv=>by cases hv⟩
   |cons v l ih=>
    intro hl;refine aLJ λaA=>e13 (ih λv hv=>hl v (aLM _ hv)) λfs f1 f2 f3=>?_;obtain⟨a,x,t,k,u,rfl,o,ho,hc,n,hd⟩:=hl v (aLQ _);refine aA ?_;exact⟨.str x t::fs,KatTups.cons (hk _ _ ho) hc hd rfl f1,by simp[f2],λv hv=>by
     rcases List.mem_cons.mp hv with rfl|hv;.exact⟨x,t,rfl⟩
     .exact f3 v hv⟩
  refine aLJ λaA=>?_;obtain⟨fs,f1,f2,f3⟩:=tup vs λv hv'=>by refine aLJ λaA=>?_;obtain⟨i,hi,rfl⟩:=List.mem_iff_getElem.mp hv';refine e42 (hv i hi) λa k t u e ht=>?_;rw[aLN hi]at e;exact aA (aBn a _ t k u (aLP e) ht)
  refine aA ?_;refine kat_kind (T:=.type "str") f1 (aGW h2 f2) (λv hv'=>?_) rfl q;refine e21 (f3 v hv') λx t bF=>?_;refine rwl bF ?_;exact Looks.of_pure rfl
 .obtain⟨a,k,t,u,e,o,ho,_,n,hd⟩:=hv i hi;refine aLJ λaA=>?_;obtain⟨a',k',t',u',e',o',ho',_,n',hd'⟩:=hv j hj;refine aA ?_;unfold kas_ask;refine rwl (aL7 ..) (rwl (aL7 ..) (rwl (e ..) (rwl (e' ..) ?_)));refine kat_lt (hk _ _ ho) hd (hk _ _ ho') hd' (kat_cons (eqBool_str (kat_go (λq=>?_) λq=>?_)))
  .have hij:i=j:=by
    by_cases z:i=j;.exact z
    .exact absurd (by have:=eq_of_beq q;simpa using this) (hne i j hi hj z)
   refine aLJ λaA=>?_;subst hij;rw[e]at e';cases aLP e';rw[ho]at ho';cases ho';rw[hd]at hd';cases hd';refine aA ?_;refine kat_yes (kat_cons (eqBool_str ?_));refine rwl (beq_self_eq_true ..) ?_;refine kat_yes (kat_nil ?_);have c:decide (key i<key i)=false:=decide_eq_false (List.lt_irrefl _);have hc':C (decide (key i<key i)) s:=hc;rw[c]at hc';exact hc'
  .refine kat_no ?_;exact oneLt_str hc
theorem QO:∀a b:List Nat,leS a b=decide (¬b<a):=by
 intro mN;induction mN with
 |nil=>intro b;have h:¬b<([]:List Nat):=List.not_lt_nil b;rw[decide_eq_true h];rfl
 |cons x l aQ=>
  intro rE;cases rE with
  |nil=>have h:([]:List Nat)<x::l:=List.nil_lt_cons x l;rw[decide_eq_false (λq=>q h)];rfl
  |cons y r=>
   refine(?_:(Bool.rec (Bool.rec false (leS l r) (Nat.beq x y)) true (Nat.blt x y):Bool)=_);cases h1:Nat.blt x y with
   |true=>
    have h1:=aC.mp h1;have:¬(y::r<x::l):=λq=>by rcases List.cons_lt_cons_iff.mp q with z|⟨z,_⟩<;>omega
    exact rwl (decide_eq_true this ..) rfl
   |false=>
    have h1:¬x<y:=λq=>by rw[aC.mpr q]at h1;cases h1
    cases h2:Nat.beq x y with
    |true=>
     have h2:=aLU h2;refine rwl h2 ((rwl (aQ r ..) ?_):leS l r=_);exact decide_eq_decide.mpr (not_congr ⟨λq=>List.cons_lt_cons_iff.mpr (.inr ⟨rfl,q⟩),λq=>by
      rcases List.cons_lt_cons_iff.mp q with z|⟨_,z⟩;.omega
      .exact z⟩)
    |false=>
     have h2:x≠y:=λq=>by rw[q,Nat.beq_refl]at h2;cases h2
     have:y::r<x::l:=List.cons_lt_cons_iff.mpr (.inl (aFk h1 h2));exact rwl (decide_eq_false (λq=>q this) ..) rfl
def KLt(a b:V):Prop:=eN a<eN b
def KNe(a b:V):Prop:=eN a≠eN b
theorem xQ(v x:V)(l:List V):CI v (x::l)=(Bool.rec (x::CI v l) (v::x::l) (leS (eN v) (eN x)):List V):=rfl
theorem xP(v:V):∀l:List V,(CI v l).Perm (v::l):=by
 intro x9;induction x9 with
 |nil=>exact .refl _
 |cons x l aQ=>
  refine rwl (xQ ..) ?_;cases leS (eN v) (eN x) with
  |true=>exact .refl _
  |false=>exact(List.Perm.cons x (aQ)).trans (List.Perm.swap ..)
theorem sP:∀l:List V,(iC l).Perm l:=by
 intro x9;induction x9 with
 |nil=>exact .refl _
 |cons v l aQ=>exact(xP v (iC l)).trans (List.Perm.cons v (aQ))
theorem WZ(v:V):∀l:List V,l.Pairwise KLt->(∀x∈l,KNe v x)->(CI v l).Pairwise KLt:=by
 intro x9;induction x9 with
 |nil=>intro _ _;exact List.pairwise_singleton ..
 |cons x l aQ=>
  intro h hn;refine e02 (List.pairwise_cons.mp h) λh1 h2=>rwl (xQ ..) (rwl (QO ..) ?_);by_cases q:eN x<eN v
  .refine rwl (decide_eq_false (λz=>z q) ..) (List.pairwise_cons.mpr ⟨λy hy=>?_,aQ h2 λy hy=>hn y (aLM _ hy)⟩);rcases List.mem_cons.mp ((xP v l).mem_iff.mp hy) with rfl|hy;.exact q
   .exact h1 y hy
  .refine rwl (decide_eq_true q ..) ?_;have lt:KLt v x:=by
    rcases Decidable.em (eN v<eN x) with z|z;.exact z
    .exact absurd (List.le_antisymm (List.not_lt.mp q) (List.not_lt.mp z)) (hn x (aLQ _))
   refine List.pairwise_cons.mpr ⟨λy hy=>?_,h⟩;rcases List.mem_cons.mp hy with rfl|hy;.exact lt
   .exact List.lt_trans lt (h1 y hy)
theorem NH:∀l:List V,l.Pairwise KNe->(iC l).Pairwise KLt:=by
 intro x9;induction x9 with
 |nil=>intro _;exact .nil
 |cons v l aQ=>intro h;exact e02 (List.pairwise_cons.mp h) λh1 h2=>WZ v _ (aQ h2) λx hx=>h1 x ((sP l).mem_iff.mp hx)
theorem KS:∀{a b:List V},a.Perm b->a.Pairwise KLt->b.Pairwise KLt->a=b:=by
 intro uT;induction uT with
 |nil=>intro b;intro h;intro _;intro _;exact(List.nil_perm.mp h).symm
 |cons x a aQ=>
  intro EF;cases EF with
  |nil=>intro h;intro _;intro _;exact absurd h.symm.nil_eq (by simp)
  |cons y b=>
   intro h;intro h1;intro h2;refine e02 (List.pairwise_cons.mp h1) λp1 p2=>e02 (List.pairwise_cons.mp h2) λq1 q2=>?_;have e:x=y:=by
    by_cases z:x=y;.exact z
    .rcases List.mem_cons.mp (h.mem_iff.mp (aLQ _)) with e|e;.exact e
     .rcases List.mem_cons.mp (h.mem_iff.mpr (aLQ _)) with e'|e';.exact e'.symm
      .exact absurd (List.lt_trans (q1 x e) (p1 y e')) (List.lt_irrefl _)
   subst e;exact rwl (aQ ((List.perm_cons x).mp h) p2 q2 ..) rfl
def fX(l:List V)(i:Nat):List Nat:=eN (l.getD i .none)
theorem KL{l:List α}{d:α}{p:List Nat}(h:p.Perm (List.range l.length)):(p.map λi=>l.getD i d).Perm l:=by
 have e:(List.range l.length).map (λi=>l.getD i d)=l:=by
  apply List.ext_getElem;.simp
  .intro i h1 h2;simp[h2]
 exact(h.map _).trans (by rw[e])
theorem VRs.pick{l:List V}(h:VRs G l xs):∀p:List Nat,(∀i∈p,i<l.length)->VRs G (p.map λi=>l.getD i V.none) (p.map λi=>xs.getD i Value.none):=by
 intro x9;induction x9 with
 |nil=>intro _;exact .nil
 |cons i p aQ=>intro hp;have hi:=hp i (aLQ _);exact e12 (h.at (aLN hi)) λx e1 e2=>.cons ((rwl (aL7 ..) (rwl (aL7 ..) (rwl (e1 ..) (rwl (aLN hi ..) e2)))):VR G (l.getD i V.none) (xs.getD i Value.none)) (aQ λj hj=>hp j (aLM _ hj))
theorem wP{l:List V}{xs out:List Value}(h:VRs G l xs)(hd:l.Pairwise KNe)(hs:gK (λi j=>decide (fX l i<fX l j)) xs out):VRs G (iC l) out:=by
 refine e13 hs λp h1 h2 fK=>rwl fK ?_;have hl:=h.length;have hr:=h.pick p.toList λi hi=>by rw[hl];exact List.mem_range.mp (h1.perm.mem_iff.mp hi)
 have e:(p.toList.map λi=>l.getD i V.none)=iC l:=by
  refine KS ((KL (by rw[hl];exact h1.perm)).trans (sP l).symm) ?_ (NH l hd);rw[List.pairwise_iff_getElem];intro i j hi hj hij;have hi':i<p.size:=by simpa using hi
  have hj':j<p.size:=by simpa using hj
  have q:=of_decide_eq_true (h2 i j hij (by rw[<- h1.size];exact hj'));have e1:p.getD i 0=p[i]:=by simp[Array.getD,hi']
  have e2:p.getD j 0=p[j]:=by simp[Array.getD,hj']
  rw[e1,e2]at q;simp only[List.getElem_map,Array.getElem_toList];exact q
 rw[<- e];exact hr
theorem NX{l:List V}(hd:l.Pairwise KNe):∀i j,i<l.length->j<l.length->i≠j->fX l i≠fX l j:=λi j hi hj hij=>by
 have at_:∀k (hk:k<l.length),fX l k=eN l[k]:=λk hk=>by unfold fX;rw[aL7,aLN hk];rfl
 refine rwl (at_ i hi ..) (rwl (at_ j hj ..) ?_);rcases Nat.lt_or_gt_of_ne hij with z|z;.exact List.pairwise_iff_getElem.mp hd i j hi hj z
 .exact(List.pairwise_iff_getElem.mp hd j i hj hi z).symm
theorem MK:∀{l:List V},qJ l=true->l.Pairwise KNe:=by
 intro EE;induction EE with
 |nil=>intro _;exact .nil
 |cons v l aQ=>
  intro h;have h':(Bool.rec false (qJ l) (gR (λx=>cW (eqS (eN v) (eN x))) l):Bool)=true:=h;cases q:gR (λx=>cW (eqS (eN v) (eN x))) l with
  |false=>rw[q]at h';cases h'
  |true=>rw[q]at h';refine List.pairwise_cons.mpr ⟨λx hx=>?_,aQ h'⟩;have:=gC q x hx;rw[gO,bQ]at this;intro z;replace this:=(decide_eq_true (show eN v=eN x from z))▸this;cases this
theorem GZ{l:List V}(h:oY l=true):∀v∈l,∃a b,v=.tup [.str a,.str b]:=λv hv=>by
 have:=gC h v hv;refine wJ this (λl h=>?_) λh=>ffB h;cases l with
 |nil=>exact ffB h
 |cons x r=>
  refine qL (v:=x) h (λa h=>?_) λh=>ffB h;cases r with
  |nil=>exact ffB h
  |cons y t=>
   refine qL (v:=y) h (λb h=>?_) λh=>ffB h;cases t with
   |nil=>exact⟨_,_,rfl⟩
   |cons _ _=>exact ffB h
theorem IQ{S dA G σ}{ls:List V}{D:Addr}{h':Heap}{m k:Nat}(I:Inv S.k S.P G σ s)(F:FR S dA G s.heap)(h:VRs G ls xs)(hn:cZ σ ls≠.stuck)(hD:s.heap.get? D=none)(hat:h'.get? D=some (dZ xs m))(hk:∀b ob,s.heap.get? b=some ob->h'.get? b=some ob)(hk0:s.toks<=k):PQ S dA G (cZ σ ls) (.ref D) { s with heap:=h',toks:=k }:=by
 unfold cZ at hn|-;refine e03 (bA hn) λh1 e1 h2=>?_;rw[e1,St.new_eq]at *;refine e03 (bA h2) λh3 e2 h4=>?_;refine rwl (e2 ..) ?_;have hl:ls.length<100000:=by have:=aC.mp h1;rw[aD]at this;exact this
 let ad:Addr×Option Addr:=(D,none)
 have only:∀b∈bD ad,b=D:=λb hb=>by simpa [bD,ad] using hb
 have hf:∀b∈bD ad,s.heap.get? b=none:=λb hb=>by rw[only b hb];exact hD
 refine fH (.ref σ.n) _ (G.push ad) rfl (G.le_push ad) ?_ (F.newObj hk hf) ?_;.refine I.newObj (aC.mp h3) rfl rfl hk hf (λb hb=>⟨dZ xs m,(only b hb).symm▸hat⟩) (λa d e=>by have q:=congrArg Prod.snd e;cases q) ?_;exact⟨rfl,xs,⟨m,hat⟩,h.mono (G.le_push ad),by exact AY hl⟩
 .exact .ref (a:=ad.1) (d:=ad.2) (by rw[I.size];exact G.push_get ad)
theorem aCs{w:World}:∀{l:List (List Nat×V)}{es:List (Str×Value)},hZ prog w G l es->l.length=es.length/\∀i:Nat,(es[i]?).map (·.1)=(l[i]?).map λp=>bS p.1:=by
 intro l es q;induction q with
 |nil=>exact⟨rfl,λi=>rfl⟩
 |cons h v r ih=>
  obtain⟨h1,h2⟩:=ih;refine⟨by simp[h1],λi=>?_⟩;cases i with
  |zero=>rfl
  |succ i=>simpa using h2 i
theorem xM:∀l:List (List Nat×V),eU l=l.map λp=>V.str p.1:=by
 intro x9;induction x9 with
 |nil=>exact rfl
 |cons p l aQ=>show V.str p.1::eU l=_;rw[aQ];rfl
theorem LC{w:World}:∀{l:List (List Nat×V)}{es:List (Str×Value)},hZ prog w G l es->∀p∈l,p.1.length<=1000000:=by
 intro l es q;induction q with
 |nil=>exactλa ha=>absurd ha List.not_mem_nil
 |cons h v r ih=>exact List.forall_mem_cons.mpr ⟨h,ih⟩
theorem yI(n:Nat)(σ:St):bi .sorted [.ref n] σ=(match σ.h.get n with
 |some (.list l)=>sel (Nat.blt (bC l) 64) (sel (oY l) (sel (qJ l) (cZ σ (iC l)) .stuck) .stuck) .stuck
 |some (.dict kvs)=>sel (Nat.blt (bC kvs) 64) (cZ σ (iC (eU kvs))) .stuck
 |_=>.stuck):=rfl
set_option tactic.hygienic true in
theorem EM{dA:Loc}{vs:List V}(ok:S.OK)(hs:S.C.hs=false)(I:Inv S.k S.P G σ s)(F:FR S dA G s.heap)(hv:VRs G vs xs):
 dJ S dA G (bi .sorted vs σ) (call (.builtin "sorted") xs) s:=by
 intro hn;have hvs:∃n,vs=[.ref n]:=by
  rcases vs with _|⟨v,_|⟨_,_⟩⟩;.exact absurd rfl hn
  .cases v<;>first|exact⟨_,rfl⟩|exact absurd rfl hn
  .cases v<;>exact absurd rfl hn
 obtain⟨n,aE⟩:=hvs;subst aE;rw[yI]at hn;refine rwl (yI ..) ?_
 .refine e12 hv.one λx aE hx=>?_;refine rwl aE ?_;refine hx.ref_el λa d h1=>?_;split at hn
  .rename_i l hg;refine e03 (bA hn) λc1 e1 hn=>?_;refine rwl (e1 ..) ?_;refine e03 (bA hn) λc2 e2 hn=>?_;refine rwl (e2 ..) ?_;refine e03 (bA hn) λc3 e3 hn=>?_;refine rwl (e3 ..) ?_;refine e24 (I.list hg h1) λys m h3 h4 h5 Z=>?_;have hl:=h4.length;have hd:=MK c3;have h64:ys.length<64:=by have:=aC.mp c1;rw[aD]at this;exact aAm hl this
   have hne:=NX hd;replace hne:=(hl)▸hne;refine AK (lt:=λi j=>decide (fX l i<fX l j)) (dT.isList ⟨m,h3⟩) h64 (AV hne) (FP hne λi hi=>?_) λout D h' m' hso hD hat hk=>?_
   .have hi':i<l.length:=by exact xF hl hi
    refine aLJ λaA=>?_;refine e12 (h4.at (aLN hi')) λy q1 q2=>?_;refine e21 (GZ c2 _ (aMc hi')) λka kb ek=>?_;replace q2:=(ek)▸q2;refine e24 q2.tup_inv λad zs bF q3 q4 Z=>?_;subst bF;refine e23 q4.two λz1 z2 bF r1 r2=>?_;subst bF;refine e12 r1.str_inv λt aE Z=>?_;subst aE;refine e12 r2.str_inv λu aE Z=>?_;subst aE;refine aA ?_;refine aIE ad (⟨kb.toArray⟩) t u q1 ?_;have e:fX l i=ka:=by unfold fX;rw[aL7,aLN hi',ek];rfl
    refine rwl (e ..) ?_;exact I.tups _ q3
   .exact IQ (k:=s.toks) I F (wP h4 hd hso) hn hD hat hk (aLO _)
  .rename_i kvs hg;refine e03 (bA hn) λc1 e1 hn=>?_;rw[e1];refine aLJ λaA=>?_;obtain⟨rfl,es,ep,h2,h3,h4,hna⟩:=I.dict hg h1;refine e02 (aCs h3) λhlen hat0=>?_;have h64:es.length<64:=by have:=aC.mp c1;rw[aD]at this;exact aAm hlen this
   have hkeys:eU kvs=kvs.map λp=>V.str p.1:=xM kvs;have nd:(es.map (·.1)).Nodup:=by obtain⟨o,es',_,_,_,_,_,nd⟩:=h2;exact nd
   refine aA ?_;have hd:(eU kvs).Pairwise KNe:=by
    rw[hkeys,List.pairwise_iff_getElem];intro i j hi hj hij q;have hi':i<kvs.length:=by simpa using hi
    have hj':j<kvs.length:=by simpa using hj
    have q':kvs[i].1=kvs[j].1:=by simpa [eN,vS] using q
    have a1:=hat0 i;have a2:=hat0 j;rw[aLN hi',aLN (IJ hlen hi':i<es.length)]at a1;rw[aLN hj',aLN (IJ hlen hj':j<es.length)]at a2;have b1:=aLP a1;have b2:=aLP a2;have:=List.pairwise_iff_getElem.mp nd i j (by simp;exact IJ hlen hi') (by simp;exact IJ hlen hj') hij;simp only[List.getElem_map]at this;exact this (b1.trans ((congrArg bS q').trans b2.symm))
   have hne:=NX hd;replace hne:=(show(eU kvs).length=es.length by rw[hkeys,aLX,hlen])▸hne;have key_at:∀i (hi:i<kvs.length),fX (eU kvs) i=kvs[i].1:=λi hi=>by unfold fX;rw[hkeys,aL7,aL8,aLN hi];rfl
   have keyv:∀(j:Nat) (v:Value),(∃k x,es[j]? = some (k,x)/\(strKind S.k.prog S.k.w).is k v=true)->∃t,v=.str ⟨(fX (eU kvs) j).toArray⟩ t/\j<kvs.length:=λj v ⟨k,x,q1,q2⟩=>by
    obtain⟨t,aE⟩:=(Value.isStrOf_shape q2);refine rwl aE ?_;have hj:j<kvs.length:=by have:=(List.getElem?_eq_some_iff.mp q1).1;exact xF hlen this
    have b:=hat0 j;rw[q1,aLN hj]at b;have b:=aLP b;exact⟨t,by rw[key_at j hj];show Value.str k t=_;rw[show k=bS kvs[j].1 from b];rfl,hj⟩
   refine wpAny_mono (wpAny_toks_of (n:=s.toks) (aLO _) (EL (Q:=λy s'=>∃(ws out:List Value) (D:Addr) (h':Heap) (m tk:Nat),y=.ref D/\s'={ s with heap:=h',toks:=tk }/\ws.length=es.length/\
    (∀(j:Nat) (v:Value),ws[j]? = some v->∃k x,es[j]? = some (k,x)/\(strKind S.k.prog S.k.w).is k v=true)/\gK (λi j=>decide (fX (eU kvs) i<fX (eU kvs) j)) ws out/\s.heap.get? D=none/\h'.get? D=some (dZ out m)/\∀b o,s.heap.get? b=some o->h'.get? b=some o)
    (kdl_dict (knd:=strKind S.k.prog S.k.w) (kvs:=es) (ep:=ep) (beq_eq_false_iff_ne.mpr hna)) (ok.handled hs) h2 h64 (λi j=>decide (fX (eU kvs) i<fX (eU kvs) j)) (AV hne)
    (λws w1 w2=>FQ λi hi=>?_) λws out D h' m tk w1 w2 w3 w4 w5 w6=>⟨ws,out,D,h',m,tk,rfl,rfl,w1,w2,w3,w4,w5,w6⟩)) (λy s' p=>?_) λZ Z p=>p.2
   .refine e12 (keyv i _ (w2 i _ (aLN hi))) λt e Z=>?_;exact⟨t,by rw[aLN hi,e]⟩
   .obtain⟨htk,ws,out,D,h',m,tk,rfl,rfl,w1,w2,w3,w4,w5,w6⟩:=p;refine IQ (k:=tk) I F (wP ?_ hd w3) hn w4 w5 w6 htk;refine rwl (hkeys ..) ?_;have go:∀(l:List (List Nat×V)) (zs:List Value),zs.length=l.length->(∀(j:Nat) (hj:j<l.length),l[j].1.length<=1000000/\∃t,zs[j]? = some (.str ⟨(l[j].1).toArray⟩ t))->VRs G (l.map λp=>V.str p.1) zs:=by
     intro l;induction l with
     |nil=>intro zs hz _;cases zs with|nil=>exact .nil|cons _ _=>simp at hz
     |cons p l ih=>
      intro zs hz hq;cases zs with
      |nil=>simp at hz
      |cons z zs=>obtain⟨k1,t,k2⟩:=hq 0 (by simp);have k2:z=.str ⟨p.1.toArray⟩ t:=aLP k2;refine rwl k2 (.cons (.str _ _ k1) (ih zs (by simpa using hz) λj hj=>?_));have:=hq (j+1) (by simpa using hj);simpa using this
    refine go kvs ws (aHc hlen w1) λj hj=>⟨LC h3 _ (aMc hj),?_⟩;have hj':j<ws.length:=aKc hlen w1 hj;refine e12 (keyv j _ (w2 j _ (aLN hj'))) λt e Z=>?_;exact⟨t,by rw[aLN hj',e,key_at j hj]⟩
  .exact absurd rfl hn
theorem SD{pos:Pos}{ih:Ev}{x:Str}{p':Pos}(ok:S.OK)(K:bX S.k)(hs:S.C.hs=false)(hk:S.C.kinds.lookup x=some .globalImplicit)(hg:S.k.mg x=none)(hx:S.k.mb x=some (biV .sorted))(hd:(x == ("__debug__" : Str))=false)(ge:cU (λe c=>bJ e=true/\aH S (ih.e c) e) es cs):aH S (λl s=>(evs ih l cs s).bind (bi .sorted)) (.Call (.Name x p') es [] pos):=by
 intro l G σ s I F H hn;dsimp only at hn|-;refine Call_ (jP ok K I hk hg hx hd (lE (eH ge) ((mI ge I F H).step hn (λZ Z p=>p) λvs aG bB xs aO e1 n1 L1 I1 F1 V1=>?_)));refine rwl (e1 ..) ?_;exact(EM ok hs I1 F1 V1).post n1 L1
def sE(x y:Str):Bool:=eqS x.cps.toList y.cps.toList
theorem eD{x y:Str}(h:sE x y=true):x=y:=by unfold sE at h;rw[bQ]at h;obtain⟨gW⟩:=x;obtain⟨a⟩:=gW;obtain⟨gW⟩:=y;obtain⟨b⟩:=gW;have:=of_decide_eq_true h;simp at this;exact rwl (this ..) rfl
structure Nm where
 T:Tab
 it:Nat->Nat
 rk:Nat->Nat
 hsF:Nat->Bool
 pl:Nat->Bool
structure Ck where
 e:Cx->Expr->CE->Bool
 t:Cx->Expr->CE->Bool
 b:Cx->List Stmt->List CS->Bool
def uO{α β:Type}(f:α->β->Bool)(l:List α):List β->Bool:=
 List.rec (λr=>List.rec true (λZ Z Z=>false) r) (λa Z k r=>List.rec false (λb r Z=>sel (f a b) (k r) false) r) l
theorem aX{b c:Bool}(h:sel b c false=true):b=true/\c=true:=by
 cases b with
 |true=>exact⟨rfl,h⟩
 |false=>cases h
theorem eY{b1 b2:Bool}(h:sel b1 b2 false=true)(k:b1=true->b2=true->P):P:=
 k (aX h).1 (aX h).2
theorem mO{b1 b2 b3:Bool}(h:sel b1 (sel b2 b3 false) false=true)(k:b1=true->b2=true->b3=true->P):P:=
 eY (aX h).2 (k (aX h).1)
theorem yT{b1 b2 b3 b4:Bool}(h:sel b1 (sel b2 (sel b3 b4 false) false) false=true)(k:b1=true->b2=true->b3=true->b4=true->P):P:=
 mO (aX h).2 (k (aX h).1)
theorem yS{b1 b2 b3 b4 b5:Bool}(h:sel b1 (sel b2 (sel b3 (sel b4 b5 false) false) false) false=true)(k:b1=true->b2=true->b3=true->b4=true->b5=true->P):P:=
 yT (aX h).2 (k (aX h).1)
theorem AO{b1 b2 b3 b4 b5 b6:Bool}(h:sel b1 (sel b2 (sel b3 (sel b4 (sel b5 b6 false) false) false) false) false=true)(k:b1=true->b2=true->b3=true->b4=true->b5=true->b6=true->P):P:=
 yS (aX h).2 (k (aX h).1)
theorem aDz{b1 b2 b3 b4 b5 b6 b7:Bool}(h:sel b1 (sel b2 (sel b3 (sel b4 (sel b5 (sel b6 b7 false) false) false) false) false) false=true)(k:b1=true->b2=true->b3=true->b4=true->b5=true->b6=true->b7=true->P):P:=
 AO (aX h).2 (k (aX h).1)
theorem VH{b1 b2 b3 b4 b5 b6 b7 b8:Bool}(h:sel b1 (sel b2 (sel b3 (sel b4 (sel b5 (sel b6 (sel b7 b8 false) false) false) false) false) false) false=true)(k:b1=true->b2=true->b3=true->b4=true->b5=true->b6=true->b7=true->b8=true->P):P:=
 aDz (aX h).2 (k (aX h).1)
theorem aB1{b1 b2 b3 b4 b5 b6 b7 b8 b9:Bool}(h:sel b1 (sel b2 (sel b3 (sel b4 (sel b5 (sel b6 (sel b7 (sel b8 b9 false) false) false) false) false) false) false) false=true)(k:b1=true->b2=true->b3=true->b4=true->b5=true->b6=true->b7=true->b8=true->b9=true->P):P:=
 VH (aX h).2 (k (aX h).1)
theorem fE{α β:Type}{f:α->β->Bool}{R:α->β->Prop}(hf:∀a b,f a b=true->R a b):∀{l:List α}{r:List β},uO f l r=true->cU R l r:=by
 intro mN;induction mN with
 |nil=>
  intro rE;cases rE with
  |nil=>intro _;exact .nil
  |cons _ _=>intro h;cases h
 |cons a l aQ=>
  intro uT;cases uT with
  |nil=>intro h;cases h
  |cons b r=>intro h;have h':sel (f a b) (uO f l r) false=true:=h;exact e02 (aX h') λh1 h2=>.cons (hf a b h1) (aQ h2)
def lkp(l:List (Str×NameKind))(x:Str):Option NameKind:=List.rec none (λp Z k=>sel (sE x p.1) (some p.2) k) l
theorem lQ(x:Str):sE x x=true:=by unfold sE;rw[bQ];simp
theorem gZ:∀(l:List (Str×NameKind)) (x:Str),lkp l x=l.lookup x:=by
 intro EF;induction EF with
 |nil=>intro _;exact rfl
 |cons EE l aQ=>
  obtain⟨y,k⟩:=EE;intro x;refine(?_:sel (sE x y) (some k) (lkp l x)=_);refine rwl (aQ x ..) (rwl (List.lookup_cons ..) ?_);by_cases h:x=y;.subst h;rw[lQ,beq_self_eq_true];rfl
  .have h1:sE x y=false:=by
    cases q:sE x y with
    |false=>rfl
    |true=>exact absurd (eD q) h
   rw[h1,beq_eq_false_iff_ne.mpr h];rfl
noncomputable def orB(a b:Bool):Bool:=match a with|true=>true|false=>b
noncomputable def oJ:Option NameKind->Bool|some .local=>true|_=>false
noncomputable def kZ:Option NameKind->Bool|some .cell=>true|_=>false
noncomputable def RJ:Option NameKind->Bool|some .globalImplicit=>true|_=>false
theorem mT{o}(h:oJ o=true):o=some .local:=by cases o with|none=>cases h|some k=>cases k<;>first|rfl|cases h
theorem pW{o}(h:kZ o=true):o=some .cell:=by cases o with|none=>cases h|some k=>cases k<;>first|rfl|cases h
theorem LJ{o}(h:RJ o=true):o=some .globalImplicit:=by cases o with|none=>cases h|some k=>cases k<;>first|rfl|cases h
def nd(x:Str):Bool:=cW (sE x ("__debug__" : Str))
theorem aBc{x}(h:nd x=true):(x == ("__debug__" : Str))=false:=by refine beq_eq_false_iff_ne.mpr λq=>?_;subst q;unfold nd at h;rw[lQ]at h;cases h
def lA(C:Cx)(x:Str):Bool:=sel (RJ (lkp C.kinds x)) (nd x) false
theorem eR{C x}(h:lA C x=true):C.kinds.lookup x=some .globalImplicit/\(x == ("__debug__" : Str))=false:=by refine e02 (aX h) λh1 h2=>?_;rw[gZ]at h1;exact⟨LJ h1,aBc h2⟩
def BW(l:List (Str×Nat))(x:Str)(i:Nat):Bool:=List.rec false (λp Z k=>sel (Nat.beq p.2 i) (sE p.1 x) k) l
theorem oI:∀{l:List (Str×Nat)}{x i},BW l x i=true->(x,i)∈l:=by
 intro MZ;induction MZ with
 |nil=>intro _;intro _;intro h;cases h
 |cons v79 l aQ=>
  obtain⟨y,j⟩:=v79;intro x;intro i;intro h;have h':sel (Nat.beq j i) (sE y x) (BW l x i)=true:=h;cases q:Nat.beq j i with
  |true=>rw[q]at h';rw[eD h',aLU q];exact aLQ _
  |false=>rw[q]at h';exact aLM _ (aQ h')
noncomputable def QL:Option NameKind->Bool|some .local=>true|some .cell=>true|_=>false
theorem zC{o}(h:QL o=true):∃k,o=some k/\(k=.local\/k=.cell):=by
 cases o with
 |none=>cases h
 |some k=>cases k<;>first|exact⟨_,rfl,.inl rfl⟩|exact⟨_,rfl,.inr rfl⟩|cases h
def aCr(C:Cx)(x:Str)(i:Nat):Bool:=sel (BW C.names x i) (sel (QL (lkp C.kinds x)) (nd x) false) false
def wrB(C:Cx)(x:Str)(i:Nat):Bool:=sel (BW C.names x i) (orB (oJ (lkp C.kinds x)) (sel (kZ (lkp C.kinds x)) (cW C.comp) false)) false
theorem dit{p:Prop}[Decidable p]{f:p->Bool}(h:(if i:p then f i else false)=true):∃i,f i=true:=by
 by_cases i:p;.rw[dif_pos i]at h;exact⟨i,h⟩
 .rw[dif_neg i]at h;cases h
noncomputable def IN(e:Expr)(g:Const->Bool):Bool:=if i:e.ctorIdx=19 then PySem.Expr.Constant.elim (motive_1:=λZ=>Bool) e i (λc k p=>g c) else false
@[elab_as_elim] theorem nW{g}{P:Expr->Prop}(h:IN e g=true)(kk:∀c k p,g c=true->P (.Constant c k p)):P e:=e11 (dit h) λi h=>PySem.Expr.Constant.elim (motive_1:=λe=>∀i:e.ctorIdx=19,PySem.Expr.Constant.elim (motive_1:=λZ=>Bool) e i (λc k p=>g c)=true->P e) e i (λc k p i h=>kk c k p h) i h
noncomputable def iT(e:Expr)(g:Str->Bool):Bool:=if i:e.ctorIdx=23 then PySem.Expr.Name.elim (motive_1:=λZ=>Bool) e i (λx p=>g x) else false
@[elab_as_elim] theorem dH{g}{P:Expr->Prop}(h:iT e g=true)(k:∀x p,g x=true->P (.Name x p)):P e:=e11 (dit h) λi h=>PySem.Expr.Name.elim (motive_1:=λe=>∀i:e.ctorIdx=23,PySem.Expr.Name.elim (motive_1:=λZ=>Bool) e i (λx p=>g x)=true->P e) e i (λx p i h=>k x p h) i h
noncomputable def PU(e:Expr)(g:Expr->Operator->Expr->Bool):Bool:=if i:e.ctorIdx=2 then PySem.Expr.BinOp.elim (motive_1:=λZ=>Bool) e i (λx o y p=>g x o y) else false
@[elab_as_elim] theorem BL{g}{P:Expr->Prop}(h:PU e g=true)(k:∀x o y p,g x o y=true->P (.BinOp x o y p)):P e:=e11 (dit h) λi h=>PySem.Expr.BinOp.elim (motive_1:=λe=>∀i:e.ctorIdx=2,PySem.Expr.BinOp.elim (motive_1:=λZ=>Bool) e i (λx o y p=>g x o y)=true->P e) e i (λx o y p i h=>k x o y p h) i h
noncomputable def BE(e:Expr)(g:UnaryOp->Expr->Bool):Bool:=if i:e.ctorIdx=3 then PySem.Expr.UnaryOp.elim (motive_1:=λZ=>Bool) e i (λo x p=>g o x) else false
@[elab_as_elim] theorem nU{g}{P:Expr->Prop}(h:BE e g=true)(k:∀o x p,g o x=true->P (.UnaryOp o x p)):P e:=e11 (dit h) λi h=>PySem.Expr.UnaryOp.elim (motive_1:=λe=>∀i:e.ctorIdx=3,PySem.Expr.UnaryOp.elim (motive_1:=λZ=>Bool) e i (λo x p=>g o x)=true->P e) e i (λo x p i h=>k o x p h) i h
noncomputable def BK(e:Expr)(g:BoolOp->List Expr->Bool):Bool:=if i:e.ctorIdx=0 then PySem.Expr.BoolOp.elim (motive_1:=λZ=>Bool) e i (λo es p=>g o es) else false
@[elab_as_elim] theorem nZ{g}{P:Expr->Prop}(h:BK e g=true)(k:∀o es p,g o es=true->P (.BoolOp o es p)):P e:=e11 (dit h) λi h=>PySem.Expr.BoolOp.elim (motive_1:=λe=>∀i:e.ctorIdx=0,PySem.Expr.BoolOp.elim (motive_1:=λZ=>Bool) e i (λo es p=>g o es)=true->P e) e i (λo es p i h=>k o es p h) i h
noncomputable def PR(e:Expr)(g:Expr->List CmpOp->List Expr->Bool):Bool:=if i:e.ctorIdx=15 then PySem.Expr.Compare.elim (motive_1:=λZ=>Bool) e i (λx os ys p=>g x os ys) else false
@[elab_as_elim] theorem nY{g}{P:Expr->Prop}(h:PR e g=true)(k:∀x os ys p,g x os ys=true->P (.Compare x os ys p)):P e:=e11 (dit h) λi h=>PySem.Expr.Compare.elim (motive_1:=λe=>∀i:e.ctorIdx=15,PySem.Expr.Compare.elim (motive_1:=λZ=>Bool) e i (λx os ys p=>g x os ys)=true->P e) e i (λx os ys p i h=>k x os ys p h) i h
noncomputable def PJ(e:Expr)(g:Expr->Expr->Expr->Bool):Bool:=if i:e.ctorIdx=5 then PySem.Expr.IfExp.elim (motive_1:=λZ=>Bool) e i (λx y z p=>g x y z) else false
@[elab_as_elim] theorem BH{g}{P:Expr->Prop}(h:PJ e g=true)(k:∀x y z p,g x y z=true->P (.IfExp x y z p)):P e:=e11 (dit h) λi h=>PySem.Expr.IfExp.elim (motive_1:=λe=>∀i:e.ctorIdx=5,PySem.Expr.IfExp.elim (motive_1:=λZ=>Bool) e i (λx y z p=>g x y z)=true->P e) e i (λx y z p i h=>k x y z p h) i h
noncomputable def PT(e:Expr)(g:Expr->List Expr->List Keyword->Pos->Bool):Bool:=if i:e.ctorIdx=16 then PySem.Expr.Call.elim (motive_1:=λZ=>Bool) e i (λf es ks p=>g f es ks p) else false
@[elab_as_elim] theorem BJ{g}{P:Expr->Prop}(h:PT e g=true)(k:∀f es ks p,g f es ks p=true->P (.Call f es ks p)):P e:=e11 (dit h) λi h=>PySem.Expr.Call.elim (motive_1:=λe=>∀i:e.ctorIdx=16,PySem.Expr.Call.elim (motive_1:=λZ=>Bool) e i (λf es ks p=>g f es ks p)=true->P e) e i (λf es ks p i h=>k f es ks p h) i h
noncomputable def BM(e:Expr)(g:Expr->Str->Pos->Bool):Bool:=if i:e.ctorIdx=20 then PySem.Expr.Attribute.elim (motive_1:=λZ=>Bool) e i (λx n p=>g x n p) else false
@[elab_as_elim] theorem oA{g}{P:Expr->Prop}(h:BM e g=true)(k:∀x n p,g x n p=true->P (.Attribute x n p)):P e:=e11 (dit h) λi h=>PySem.Expr.Attribute.elim (motive_1:=λe=>∀i:e.ctorIdx=20,PySem.Expr.Attribute.elim (motive_1:=λZ=>Bool) e i (λx n p=>g x n p)=true->P e) e i (λx n p i h=>k x n p h) i h
noncomputable def BF(e:Expr)(g:Expr->Expr->Bool):Bool:=if i:e.ctorIdx=21 then PySem.Expr.Subscript.elim (motive_1:=λZ=>Bool) e i (λx y p=>g x y) else false
@[elab_as_elim] theorem nV{g}{P:Expr->Prop}(h:BF e g=true)(k:∀x y p,g x y=true->P (.Subscript x y p)):P e:=e11 (dit h) λi h=>PySem.Expr.Subscript.elim (motive_1:=λe=>∀i:e.ctorIdx=21,PySem.Expr.Subscript.elim (motive_1:=λZ=>Bool) e i (λx y p=>g x y)=true->P e) e i (λx y p i h=>k x y p h) i h
noncomputable def aAZ(e:Expr)(g:Option Expr->Option Expr->Option Expr->Bool):Bool:=if i:e.ctorIdx=26 then PySem.Expr.Slice.elim (motive_1:=λZ=>Bool) e i (λx y z p=>g x y z) else false
@[elab_as_elim] theorem PB{g}{P:Expr->Prop}(h:aAZ e g=true)(k:∀x y z p,g x y z=true->P (.Slice x y z p)):P e:=e11 (dit h) λi h=>PySem.Expr.Slice.elim (motive_1:=λe=>∀i:e.ctorIdx=26,PySem.Expr.Slice.elim (motive_1:=λZ=>Bool) e i (λx y z p=>g x y z)=true->P e) e i (λx y z p i h=>k x y z p h) i h
noncomputable def aA2(e:Expr)(g:List Expr->Bool):Bool:=if i:e.ctorIdx=24 then PySem.Expr.List.elim (motive_1:=λZ=>Bool) e i (λes p=>g es) else false
@[elab_as_elim] theorem PF{g}{P:Expr->Prop}(h:aA2 e g=true)(k:∀es p,g es=true->P (.List es p)):P e:=e11 (dit h) λi h=>PySem.Expr.List.elim (motive_1:=λe=>∀i:e.ctorIdx=24,PySem.Expr.List.elim (motive_1:=λZ=>Bool) e i (λes p=>g es)=true->P e) e i (λes p i h=>k es p h) i h
noncomputable def IK(e:Expr)(g:List Expr->Nat->Pos->Bool):Bool:=if i:e.ctorIdx=25 then PySem.Expr.Tuple.elim (motive_1:=λZ=>Bool) e i (λes k p=>g es k p) else false
@[elab_as_elim] theorem sZ{g}{P:Expr->Prop}(h:IK e g=true)(kk:∀es k p,g es k p=true->P (.Tuple es k p)):P e:=e11 (dit h) λi h=>PySem.Expr.Tuple.elim (motive_1:=λe=>∀i:e.ctorIdx=25,PySem.Expr.Tuple.elim (motive_1:=λZ=>Bool) e i (λes k p=>g es k p)=true->P e) e i (λes k p i h=>kk es k p h) i h
noncomputable def aA9(e:Expr)(g:List (Option Expr)->List Expr->Bool):Bool:=if i:e.ctorIdx=6 then PySem.Expr.Dict.elim (motive_1:=λZ=>Bool) e i (λks es p=>g ks es) else false
@[elab_as_elim] theorem PN{g}{P:Expr->Prop}(h:aA9 e g=true)(k:∀ks es p,g ks es=true->P (.Dict ks es p)):P e:=e11 (dit h) λi h=>PySem.Expr.Dict.elim (motive_1:=λe=>∀i:e.ctorIdx=6,PySem.Expr.Dict.elim (motive_1:=λZ=>Bool) e i (λks es p=>g ks es)=true->P e) e i (λks es p i h=>k ks es p h) i h
noncomputable def aA3(e:Expr)(g:Expr->List Comprehension->Scope->Bool):Bool:=if i:e.ctorIdx=8 then PySem.Expr.ListComp.elim (motive_1:=λZ=>Bool) e i (λy gs sc p=>g y gs sc) else false
@[elab_as_elim] theorem BG{g}{P:Expr->Prop}(h:aA3 e g=true)(k:∀y gs sc p,g y gs sc=true->P (.ListComp y gs sc p)):P e:=e11 (dit h) λi h=>PySem.Expr.ListComp.elim (motive_1:=λe=>∀i:e.ctorIdx=8,PySem.Expr.ListComp.elim (motive_1:=λZ=>Bool) e i (λy gs sc p=>g y gs sc)=true->P e) e i (λy gs sc p i h=>k y gs sc p h) i h
noncomputable def aA4(e:Expr)(g:List Expr->Bool):Bool:=if i:e.ctorIdx=18 then PySem.Expr.JoinedStr.elim (motive_1:=λZ=>Bool) e i (λes p=>g es) else false
@[elab_as_elim] theorem PH{g}{P:Expr->Prop}(h:aA4 e g=true)(k:∀es p,g es=true->P (.JoinedStr es p)):P e:=e11 (dit h) λi h=>PySem.Expr.JoinedStr.elim (motive_1:=λe=>∀i:e.ctorIdx=18,PySem.Expr.JoinedStr.elim (motive_1:=λZ=>Bool) e i (λes p=>g es)=true->P e) e i (λes p i h=>k es p h) i h
noncomputable def aA7(e:Expr)(g:Expr->Int->Option Expr->Bool):Bool:=if i:e.ctorIdx=17 then PySem.Expr.FormattedValue.elim (motive_1:=λZ=>Bool) e i (λx v f p=>g x v f) else false
@[elab_as_elim] theorem PL{g}{P:Expr->Prop}(h:aA7 e g=true)(k:∀x v f p,g x v f=true->P (.FormattedValue x v f p)):P e:=e11 (dit h) λi h=>PySem.Expr.FormattedValue.elim (motive_1:=λe=>∀i:e.ctorIdx=17,PySem.Expr.FormattedValue.elim (motive_1:=λZ=>Bool) e i (λx v f p=>g x v f)=true->P e) e i (λx v f p i h=>k x v f p h) i h
noncomputable def IP(e:Stmt)(g:List Expr->Expr->Bool):Bool:=if i:e.ctorIdx=5 then PySem.Stmt.Assign.elim (motive_2:=λZ=>Bool) e i (λts a p=>g ts a) else false
@[elab_as_elim] theorem oB{e:Stmt}{g}{P:Stmt->Prop}(h:IP e g=true)(k:∀ts a p,g ts a=true->P (.Assign ts a p)):P e:=e11 (dit h) λi h=>PySem.Stmt.Assign.elim (motive_2:=λe=>∀i:e.ctorIdx=5,PySem.Stmt.Assign.elim (motive_2:=λZ=>Bool) e i (λts a p=>g ts a)=true->P e) e i (λts a p i h=>k ts a p h) i h
noncomputable def IO(e:Stmt)(g:Expr->Operator->Expr->Bool):Bool:=if i:e.ctorIdx=7 then PySem.Stmt.AugAssign.elim (motive_2:=λZ=>Bool) e i (λx o a p=>g x o a) else false
@[elab_as_elim] theorem tD{e:Stmt}{g}{P:Stmt->Prop}(h:IO e g=true)(k:∀x o a p,g x o a=true->P (.AugAssign x o a p)):P e:=e11 (dit h) λi h=>PySem.Stmt.AugAssign.elim (motive_2:=λe=>∀i:e.ctorIdx=7,PySem.Stmt.AugAssign.elim (motive_2:=λZ=>Bool) e i (λx o a p=>g x o a)=true->P e) e i (λx o a p i h=>k x o a p h) i h
noncomputable def aA8(e:Stmt)(g:Expr->Bool):Bool:=if i:e.ctorIdx=24 then PySem.Stmt.Expr.elim (motive_2:=λZ=>Bool) e i (λa p=>g a) else false
@[elab_as_elim] theorem PM{e:Stmt}{g}{P:Stmt->Prop}(h:aA8 e g=true)(k:∀a p,g a=true->P (.Expr a p)):P e:=e11 (dit h) λi h=>PySem.Stmt.Expr.elim (motive_2:=λe=>∀i:e.ctorIdx=24,PySem.Stmt.Expr.elim (motive_2:=λZ=>Bool) e i (λa p=>g a)=true->P e) e i (λa p i h=>k a p h) i h
noncomputable def aA0(e:Stmt)(g:Option Expr->Bool):Bool:=if i:e.ctorIdx=3 then PySem.Stmt.Return.elim (motive_2:=λZ=>Bool) e i (λa p=>g a) else false
@[elab_as_elim] theorem PC{e:Stmt}{g}{P:Stmt->Prop}(h:aA0 e g=true)(k:∀a p,g a=true->P (.Return a p)):P e:=e11 (dit h) λi h=>PySem.Stmt.Return.elim (motive_2:=λe=>∀i:e.ctorIdx=3,PySem.Stmt.Return.elim (motive_2:=λZ=>Bool) e i (λa p=>g a)=true->P e) e i (λa p i h=>k a p h) i h
noncomputable def aA5(e:Stmt)(g:Expr->List Stmt->List Stmt->Bool):Bool:=if i:e.ctorIdx=12 then PySem.Stmt.If.elim (motive_2:=λZ=>Bool) e i (λx A B p=>g x A B) else false
@[elab_as_elim] theorem PI{e:Stmt}{g}{P:Stmt->Prop}(h:aA5 e g=true)(k:∀x A B p,g x A B=true->P (.If x A B p)):P e:=e11 (dit h) λi h=>PySem.Stmt.If.elim (motive_2:=λe=>∀i:e.ctorIdx=12,PySem.Stmt.If.elim (motive_2:=λZ=>Bool) e i (λx A B p=>g x A B)=true->P e) e i (λx A B p i h=>k x A B p h) i h
noncomputable def aAX(e:Stmt)(g:Expr->List Stmt->List Stmt->Bool):Bool:=if i:e.ctorIdx=11 then PySem.Stmt.While.elim (motive_2:=λZ=>Bool) e i (λx A B p=>g x A B) else false
@[elab_as_elim] theorem OV{e:Stmt}{g}{P:Stmt->Prop}(h:aAX e g=true)(k:∀x A B p,g x A B=true->P (.While x A B p)):P e:=e11 (dit h) λi h=>PySem.Stmt.While.elim (motive_2:=λe=>∀i:e.ctorIdx=11,PySem.Stmt.While.elim (motive_2:=λZ=>Bool) e i (λx A B p=>g x A B)=true->P e) e i (λx A B p i h=>k x A B p h) i h
noncomputable def aA6(e:Stmt)(g:Expr->Expr->List Stmt->List Stmt->Bool):Bool:=if i:e.ctorIdx=9 then PySem.Stmt.For.elim (motive_2:=λZ=>Bool) e i (λx a A B p=>g x a A B) else false
@[elab_as_elim] theorem PK{e:Stmt}{g}{P:Stmt->Prop}(h:aA6 e g=true)(k:∀x a A B p,g x a A B=true->P (.For x a A B p)):P e:=e11 (dit h) λi h=>PySem.Stmt.For.elim (motive_2:=λe=>∀i:e.ctorIdx=9,PySem.Stmt.For.elim (motive_2:=λZ=>Bool) e i (λx a A B p=>g x a A B)=true->P e) e i (λx a A B p i h=>k x a A B p h) i h
noncomputable def aA1(e:Stmt)(g:Option Expr->Option Expr->Bool):Bool:=if i:e.ctorIdx=16 then PySem.Stmt.Raise.elim (motive_2:=λZ=>Bool) e i (λx y p=>g x y) else false
@[elab_as_elim] theorem PD{e:Stmt}{g}{P:Stmt->Prop}(h:aA1 e g=true)(k:∀x y p,g x y=true->P (.Raise x y p)):P e:=e11 (dit h) λi h=>PySem.Stmt.Raise.elim (motive_2:=λe=>∀i:e.ctorIdx=16,PySem.Stmt.Raise.elim (motive_2:=λZ=>Bool) e i (λx y p=>g x y)=true->P e) e i (λx y p i h=>k x y p h) i h
noncomputable def aAY(e:Stmt)(g:List Stmt->List ExceptHandler->List Stmt->List Stmt->Bool):Bool:=if i:e.ctorIdx=17 then PySem.Stmt.Try.elim (motive_2:=λZ=>Bool) e i (λA hs B D p=>g A hs B D) else false
@[elab_as_elim] theorem OW{e:Stmt}{g}{P:Stmt->Prop}(h:aAY e g=true)(k:∀A hs B D p,g A hs B D=true->P (.Try A hs B D p)):P e:=e11 (dit h) λi h=>PySem.Stmt.Try.elim (motive_2:=λe=>∀i:e.ctorIdx=17,PySem.Stmt.Try.elim (motive_2:=λZ=>Bool) e i (λA hs B D p=>g A hs B D)=true->P e) e i (λA hs B D p i h=>k A hs B D p h) i h
noncomputable def aBa(e:Stmt)(g:Pos->Bool):Bool:=if i:e.ctorIdx=27 then PySem.Stmt.Continue.elim (motive_2:=λZ=>Bool) e i (λp=>g p) else false
@[elab_as_elim] theorem PO{e:Stmt}{g}{P:Stmt->Prop}(h:aBa e g=true)(k:∀p,g p=true->P (.Continue p)):P e:=e11 (dit h) λi h=>PySem.Stmt.Continue.elim (motive_2:=λe=>∀i:e.ctorIdx=27,PySem.Stmt.Continue.elim (motive_2:=λZ=>Bool) e i (λp=>g p)=true->P e) e i (λp i h=>k p h) i h
def onE(l:List α)(g:Bool):Bool:=List.rec g (λZ Z Z=>false) l
@[elab_as_elim] theorem jN{l:List α}{g}{P:List α->Prop}(h:onE l g=true)(k:g=true->P []):P l:=by cases l with|nil=>exact k h|cons a l=>cases h
def on1(l:List α)(g:α->Bool):Bool:=List.rec false (λa r Z=>onE r (g a)) l
@[elab_as_elim] theorem eT{l:List α}{g}{P:List α->Prop}(h:on1 l g=true)(k:∀a,g a=true->P [a]):P l:=by cases l with|nil=>cases h|cons a l=>exact jN (P:=λl=>P (a::l)) (show onE l (g a)=true from h) (k a)
def on2(l:List α)(g:α->α->Bool):Bool:=List.rec false (λa r Z=>on1 r (g a)) l
@[elab_as_elim] theorem pJ{l:List α}{g}{P:List α->Prop}(h:on2 l g=true)(k:∀a b,g a b=true->P [a,b]):P l:=by cases l with|nil=>cases h|cons a l=>exact eT (P:=λl=>P (a::l)) (show on1 l (g a)=true from h) (k a)
def onS(o:Option α)(g:α->Bool):Bool:=Option.rec false g o
@[elab_as_elim] theorem tA{o:Option α}{g}{P:Option α->Prop}(h:onS o g=true)(k:∀a,g a=true->P (some a)):P o:=by cases o with|none=>cases h|some a=>exact k a h
def onN(o:Option α)(g:Bool):Bool:=Option.rec g (λZ=>false) o
@[elab_as_elim] theorem FH{o:Option α}{g}{P:Option α->Prop}(h:onN o g=true)(k:g=true->P none):P o:=by cases o with|none=>exact k h|some a=>cases h
noncomputable def QZ(o:UnaryOp):Bool:=decide (o=.USub)
noncomputable def aBf(o:UnaryOp):Bool:=decide (o=.Invert)
noncomputable def RD(o:UnaryOp):Bool:=decide (o=.Not)
theorem LG{o}(h:QZ o=true):o=.USub:=of_decide_eq_true h
theorem RI{o}(h:aBf o=true):o=.Invert:=of_decide_eq_true h
theorem CB{o}(h:RD o=true):o=.Not:=of_decide_eq_true h
noncomputable def RM(o:BoolOp):Bool:=decide (o=.And)
noncomputable def aCA(o:BoolOp):Bool:=decide (o=.Or)
theorem CG{o}(h:RM o=true):o=.And:=of_decide_eq_true h
theorem JA{o}(h:aCA o=true):o=.Or:=of_decide_eq_true h
noncomputable def RG(o:Operator):Bool:=decide (o=.Mult)
theorem LI{o}(h:RG o=true):o=.Mult:=of_decide_eq_true h
noncomputable def IL(c:Const)(g:Str->Bool):Bool:=match c with|.str s=>g s|_=>false
theorem OX{c g}(h:IL c g=true):∃s,c=.str s/\g s=true:=by cases c<;>first|exact⟨_,rfl,h⟩|cases h
@[elab_as_elim] theorem OY{c g}{P:Const->Prop}(h:IL c g=true)(k:∀s,g s=true->P (.str s)):P c:=by cases c<;>first|exact k _ h|cases h
def IM(e:Expr)(g:Expr->Str->Pos->List Expr->Pos->Bool):Bool:=PT e λf es ks p=>onE ks (BM f λx n a=>g x n a es p)
@[elab_as_elim] theorem tC{e g}{P:Expr->Prop}(h:IM e g=true)(k:∀x n a es p,g x n a es p=true->P (.Call (.Attribute x n a) es [] p)):P e:=
 BJ h λf es ks p h=>jN (P:=λks=>P (.Call f es ks p)) h λh=>oA (P:=λf=>P (.Call f es [] p)) h λx n a h=>k x n a es p h
def xG(e:Expr)(g:Str->List Expr->Bool):Bool:=PT e λf es ks Z=>onE ks (iT f λx=>g x es)
@[elab_as_elim] theorem iU{e g}{P:Expr->Prop}(h:xG e g=true)(k:∀x q es p,g x es=true->P (.Call (.Name x q) es [] p)):P e:=
 BJ h λf es ks p h=>jN (P:=λks=>P (.Call f es ks p)) h λh=>dH (P:=λf=>P (.Call f es [] p)) h λx q h=>k x q es p h
noncomputable def boB(o:Operator)(op:BO):Bool:=decide (o=sX op)
theorem zP{o op}(h:boB o op=true):o=sX op:=of_decide_eq_true h
noncomputable def ccB(o:CmpOp)(op:CO):Bool:=decide (o=cOf op)
theorem gJ{o op}(h:ccB o op=true):o=cOf op:=of_decide_eq_true h
noncomputable def kB(c:Const)(g:Bool->Bool):Bool:=if i:c.ctorIdx=1 then PySem.Const.bool.elim (motive:=λZ=>Bool) c i g else false
@[elab_as_elim] theorem aH9{c:Const}{g}{P:Const->Prop}(h:kB c g=true)(k:∀v,g v=true->P (.bool v)):P c:=e11 (dit h) λi h=>PySem.Const.bool.elim (motive:=λe=>∀i:e.ctorIdx=1,PySem.Const.bool.elim (motive:=λZ=>Bool) e i g=true->P e) c i (λn i h=>k n h) i h
noncomputable def kI(c:Const)(g:Int->Bool):Bool:=if i:c.ctorIdx=2 then PySem.Const.int.elim (motive:=λZ=>Bool) c i g else false
@[elab_as_elim] theorem aH8{c:Const}{g}{P:Const->Prop}(h:kI c g=true)(k:∀v,g v=true->P (.int v)):P c:=e11 (dit h) λi h=>PySem.Const.int.elim (motive:=λe=>∀i:e.ctorIdx=2,PySem.Const.int.elim (motive:=λZ=>Bool) e i g=true->P e) c i (λn i h=>k n h) i h
noncomputable def kS(c:Const)(g:Str->Bool):Bool:=if i:c.ctorIdx=5 then PySem.Const.str.elim (motive:=λZ=>Bool) c i g else false
@[elab_as_elim] theorem aH7{c:Const}{g}{P:Const->Prop}(h:kS c g=true)(k:∀v,g v=true->P (.str v)):P c:=e11 (dit h) λi h=>PySem.Const.str.elim (motive:=λe=>∀i:e.ctorIdx=5,PySem.Const.str.elim (motive:=λZ=>Bool) e i g=true->P e) c i (λn i h=>k n h) i h
def GI(a b:Bool):Bool:=Bool.rec (Bool.rec true false b) b a
def coB(v:V)(c:Const):Bool:=V.casesOn (motive_1:=λZ=>Bool) v (Nat.beq c.ctorIdx 0) (λa=>kB c λb=>GI a b) (λi=>kI c λj=>eqB i j)
 (λl=>kS c λx=>sel (eqS l x.cps.toList) (Nat.ble (bC l) 1000) false) (λZ=>false) (λZ=>false) (λZ Z Z=>false) (λZ=>false)
theorem ffT(h:false=true):P:=by cases h
theorem GJ{v c}(h:coB v c=true):CoR v c:=by
 cases v with
 |none=>cases c<;>first|exact .none|exact ffT h
 |bool a=>
  refine aH9 h λb h=>?_;have:a=b:=by cases a<;>cases b<;>first|rfl|cases h
  exact rwl this (.bool _)
 |int i=>refine aH8 h λj h=>?_;rw[eO]at h;exact rwl (of_decide_eq_true h) (.int _)
 |str l=>refine aH7 h λx h=>e02 (aX h) λh1 h2=>?_;rw[bQ]at h1;have h1:=of_decide_eq_true h1;have h2:=aLK h2;rw[aD]at h2;obtain⟨gW⟩:=x;obtain⟨a⟩:=gW;simp at h1;exact rwr h1 (.str _ (OB h2))
 |_=>exact ffT h
noncomputable def biN:BI->Str|.len=>Str.ofString "len"|.range=>Str.ofString "range"|.str=>Str.ofString "str"|.sorted=>Str.ofString "sorted"
noncomputable def RA:BI->Bool|.sorted=>true|_=>false
noncomputable def RB:ME->Bool|.replace=>true|_=>false
def hsB(I:Nm)(C:Cx)(f:Nat):Bool:=orB (cW C.hs) (I.hsF f)
def fnB(I:Nm)(C:Cx)(f:Nat):Bool:=sel (Nat.blt f I.T.nf) (sel (Nat.blt (I.rk f) C.rank) (hsB I C f) false) false
def RV(I:Nm)(x:Str)(f:Nat)(n:Nat):Bool:=Nat.rec false (λc k=>orB k (sel (Nat.beq (I.it c) f) (sE x (I.T.cn c)) false)) n
theorem mQ{a b:Bool}(h:orB a b=true):a=true\/b=true:=by cases a<;>cases b<;>first|exact .inl rfl|exact .inr rfl|cases h
theorem RU{I:Nm}{x f}:∀{n},RV I x f n=true->∃c,c<n/\I.it c=f/\x=I.T.cn c:=by
 intro v89;induction v89 with
 |zero=>intro h;cases h
 |succ n aQ=>
  intro h;have h':orB (RV I x f n) (sel (Nat.beq (I.it n) f) (sE x (I.T.cn n)) false)=true:=h;rcases mQ h' with q|q;.obtain⟨c,h1,h2⟩:=aQ q;exact⟨c,Nat.lt_succ_of_lt h1,h2⟩
  .exact e02 (aX q) λh1 h2=>⟨n,Nat.lt_succ_self _,aLU h1,eD h2⟩
def jD(ih:Ck)(C:Cx)(es:List Expr)(cs:List CE):Bool:=uO (λe c=>sel (bJ e) (ih.e C e c) false) es cs
def IW(a p:Pos)(es:List Expr):Bool:=sel (Nat.beq a.endLine p.line) (Nat.blt (bC es) 20) false
noncomputable def aIS(c:CE)(g:BO->CE->CE->Bool):Bool:=if i:c.ctorIdx=3 then CE.bin.elim (motive_1:=λZ=>Bool) c i g else false
@[elab_as_elim] theorem YG{c:CE}{g}{P:CE->Prop}(h:aIS c g=true)(k:∀o a b,g o a b=true->P (.bin o a b)):P c:=e11 (dit h) λi h=>CE.bin.elim (motive_1:=λe=>∀i:e.ctorIdx=3,CE.bin.elim (motive_1:=λZ=>Bool) e i g=true->P e) c i (λo a b i h=>k o a b h) i h
noncomputable def aCX(c:CE)(g:Nat->Bool):Bool:=if i:c.ctorIdx=1 then CE.loc.elim (motive_1:=λZ=>Bool) c i g else false
@[elab_as_elim] theorem JR{c:CE}{g}{P:CE->Prop}(h:aCX c g=true)(k:∀n,g n=true->P (.loc n)):P c:=e11 (dit h) λi h=>CE.loc.elim (motive_1:=λe=>∀i:e.ctorIdx=1,CE.loc.elim (motive_1:=λZ=>Bool) e i g=true->P e) c i (λn i h=>k n h) i h
noncomputable def cC(c:CE)(g:V->Bool):Bool:=if i:c.ctorIdx=0 then CE.c.elim (motive_1:=λZ=>Bool) c i g else false
@[elab_as_elim] theorem aIR{c:CE}{g}{P:CE->Prop}(h:cC c g=true)(k:∀v,g v=true->P (.c v)):P c:=e11 (dit h) λi h=>CE.c.elim (motive_1:=λe=>∀i:e.ctorIdx=0,CE.c.elim (motive_1:=λZ=>Bool) e i g=true->P e) c i (λn i h=>k n h) i h
noncomputable def cBi(c:CE)(g:BI->List CE->Bool):Bool:=if i:c.ctorIdx=15 then CE.bi.elim (motive_1:=λZ=>Bool) c i g else false
@[elab_as_elim] theorem aCY{c:CE}{g}{P:CE->Prop}(h:cBi c g=true)(k:∀o a,g o a=true->P (.bi o a)):P c:=e11 (dit h) λi h=>CE.bi.elim (motive_1:=λe=>∀i:e.ctorIdx=15,CE.bi.elim (motive_1:=λZ=>Bool) e i g=true->P e) c i (λo a i h=>k o a h) i h
noncomputable def wS(c:V)(g:List Nat->Bool):Bool:=if i:c.ctorIdx=3 then V.str.elim (motive_1:=λZ=>Bool) c i g else false
@[elab_as_elim] theorem aDl{c:V}{g}{P:V->Prop}(h:wS c g=true)(k:∀l,g l=true->P (.str l)):P c:=e11 (dit h) λi h=>V.str.elim (motive_1:=λe=>∀i:e.ctorIdx=3,V.str.elim (motive_1:=λZ=>Bool) e i g=true->P e) c i (λl i h=>k l h) i h
def PE(c:CE)(g:Nat->Bool):Bool:=aIS c λo a b=>sel (RH o) (cC a λv=>wS v λl=>sel (eqS l [46]) (aCX b g) false) false
noncomputable def aCz(b:BI):Bool:=Nat.beq b.ctorIdx 2
def OZ(c:CE)(g:Nat->Bool):Bool:=cBi c λb l=>sel (aCz b) (on1 l λa=>aCX a g) false
@[elab_as_elim] theorem KU{c g}{P:CE->Prop}(h:PE c g=true)(k:∀i,g i=true->P (.bin .mul (.c (.str [46])) (.loc i))):P c:=by
 refine YG h λo a b h=>eY h λh0 h=>?_;have e:o=.mul:=by cases o<;>first|rfl|cases h0
 refine rwl e (aIR h λv h=>aDl h λl h=>eY h λh1 h=>?_);rw[bQ]at h1;exact rwl (of_decide_eq_true h1) (JR h k)
@[elab_as_elim] theorem KT{c g}{P:CE->Prop}(h:OZ c g=true)(k:∀i,g i=true->P (.bi .str [.loc i])):P c:=by
 refine aCY h λb l h=>eY h λh0 h=>?_;have e:b=.str:=by cases b<;>first|rfl|cases h0
 exact rwl e (eT h λa h=>JR h k)
def YT(C:Cx)(es:List Expr)(cs:List CE):Bool:=on2 es λe1 e2=>on2 cs λc1 c2=>PE c1 λi=>OZ c2 λj=>PU e1 λu o v=>sel (RG o) (IN u λw=>IL w λd=>iT v λx=>xG e2 λxs ys=>on1 ys λyy=>iT yy λy=>
 sel (sE d ⟨#[46]⟩) (sel (sE xs (Str.ofString "str")) (sel (sE x y) (sel (Nat.beq i j) (sel (aCr C x i) (lA C xs) false) false) false) false) false) false
def tgN(target:Expr)(tg:Tg):List (Str×Nat):=match target,tg with
 |.Name x _,.n i=>[(x,i)]
 |.Tuple es _ _,.t is=>List.rec (λZ=>[]) (λe Z k is=>List.rec [] (λi is Z=>(match e with|.Name x _=>(x,i)::k is|_=>[])) is) es is
 |_,_=>[]
def aK3(l:List (Str×Nat))(x:Str):Option Nat:=List.rec none (λp Z k=>sel (sE x p.1) (some p.2) k) l
noncomputable def FT:NameKind->Bool|.free=>true|_=>false
def aIv(C:Cx)(names:List (Str×NameKind)):List (Str×Nat):=List.rec [] (λp Z k=>sel (FT p.2) (Option.rec k (λi=>(p.1,i)::k) (aK3 C.names p.1)) k) names
def NQ(C:Cx)(names:List (Str×NameKind)):List (Str×NameKind):=List.rec [] (λp Z k=>sel (FT p.2) (sel (kZ (lkp C.kinds p.1)) ((p.1,.cell)::k) (p::k)) (p::k)) names
def gP(C:Cx)(scope:Scope)(target:Expr)(tg:Tg):Cx:=
 { names:=app (tgN target tg) (aIv C scope.names),kinds:=NQ C scope.names,comp:=true,hs:=C.hs,rank:=C.rank }
theorem VS(C:Cx):∀names:List (Str×NameKind),NQ C names=EV names C.kinds:=by
 intro v99;induction v99 with
 |nil=>exact rfl
 |cons aBO r aQ=>
  obtain⟨n,k⟩:=aBO;refine((rwl (aQ ..) (?_:_=(if (k == .free&&C.kinds.lookup n == some .cell)=true then (n,NameKind.cell) else (n,k))::EV r C.kinds)):sel (FT k) (sel (kZ (lkp C.kinds n)) ((n,.cell)::NQ C r) ((n,k)::NQ C r)) ((n,k)::NQ C r)=EV ((n,k)::r) C.kinds);refine rwl (gZ ..) ?_;cases k<;>try rfl
  by_cases h:C.kinds.lookup n=some .cell;.rw[h];rfl
  .have e1:kZ (C.kinds.lookup n)=false:=by
    cases q:kZ (C.kinds.lookup n) with
    |false=>rfl
    |true=>exact absurd (pW q) h
   have e2:(C.kinds.lookup n == some .cell)=false:=beq_eq_false_iff_ne.mpr h;rw[e1,e2];rfl
def uN(f:α->Bool)(l:List α):Bool:=List.rec true (λa Z k=>sel (f a) k false) l
theorem gQ{f:α->Bool}:∀{l:List α},uN f l=true->∀a∈l,f a=true:=by
 intro aJo;induction aJo with
 |nil=>intro _ a ha;cases ha
 |cons b l aQ=>
  intro h a ha;have h':sel (f b) (uN f l) false=true:=h;refine e02 (aX h') λh1 h2=>?_;rcases List.mem_cons.mp ha with rfl|ha;.exact h1
  .exact aQ h2 a ha
def yZ(l:List (Str×Nat)):Bool:=List.rec true (λp r k=>sel (uN (λq=>cW (sE p.1 q.1)) r) k false) l
def zA(l:List (Str×Nat)):Bool:=List.rec true (λp r k=>sel (uN (λq=>cW (Nat.beq p.2 q.2)) r) k false) l
theorem xH:∀{l:List (Str×Nat)},yZ l=true->(l.map (·.1)).Nodup:=by
 intro aJn;induction aJn with
 |nil=>intro _;exact .nil
 |cons p l aQ=>intro h;have h':sel (uN (λq=>cW (sE p.1 q.1)) l) (yZ l) false=true:=h;refine e02 (aX h') λh1 h2=>?_;rw[List.map_cons,List.nodup_cons];refine⟨λhm=>(e12 (List.mem_map.mp hm) λq hq e=>?_),aQ h2⟩;have:=gQ h1 q hq;rw[e,lQ]at this;cases this
theorem xJ:∀{l:List (Str×Nat)},zA l=true->(l.map (·.2)).Nodup:=by
 intro aJm;induction aJm with
 |nil=>intro _;exact .nil
 |cons p l aQ=>intro h;have h':sel (uN (λq=>cW (Nat.beq p.2 q.2)) l) (zA l) false=true:=h;refine e02 (aX h') λh1 h2=>?_;rw[List.map_cons,List.nodup_cons];refine⟨λhm=>(e12 (List.mem_map.mp hm) λq hq e=>?_),aQ h2⟩;have:=gQ h1 q hq;rw[e,Nat.beq_refl]at this;cases this
def aCp(i:Nat)(l:List Nat):Bool:=List.rec false (λj Z k=>orB (Nat.beq i j) k) l
theorem WC{i:Nat}:∀{l:List Nat},aCp i l=true->i∈l:=by
 intro aJl;induction aJl with
 |nil=>intro h;cases h
 |cons j l aQ=>
  intro h;have h':orB (Nat.beq i j) (aCp i l)=true:=h;rcases mQ h' with q|q;.rw[aLU q];exact aLQ _
  .exact aLM _ (aQ q)
noncomputable def aIc:ScopeKind->Bool|.function=>true|_=>false
noncomputable def CL(a b:Bool):Bool:=match a with|true=>b|false=>true
theorem lV{a b:Bool}(h:CL a b=true)(ha:a=true):b=true:=by subst ha;exact h
def TQ(C Cc:Cx)(scope:Scope)(is:List Nat):Bool:=
 sel (aIc scope.kind) (sel (uN (λp=>match p.2 with|.cell=>false|.local=>oJ (lkp scope.names p.1)|.free=>kZ (lkp C.kinds p.1)|_=>true) scope.names)
  (sel (uN (λp=>sel (CL (oJ (lkp Cc.kinds p.1)) (aCp p.2 is)) (CL (kZ (lkp Cc.kinds p.1)) (BW C.names p.1 p.2)) false) Cc.names) (sel (yZ Cc.names) (zA Cc.names) false) false) false) false
set_option tactic.hygienic true in
theorem KI{names kinds:List (Str×NameKind)}(hn:∀x∈names,x.2≠.cell){x:Str}(h:(EV names kinds).lookup x=some .cell):kinds.lookup x=some .cell/\(x,NameKind.free)∈names:=by
 refine aLJ λaA=>?_;obtain⟨⟨n,k⟩,h1,h2⟩:=List.mem_map.mp (mem_of_lookup h);dsimp only at h2;refine aA (aLJ λaA=>?_);split at h2;.rename_i q;cases h2;simp only[Bool.and_eq_true,beq_iff_eq]at q;obtain⟨zF,q2⟩:=q;subst zF;exact aA ⟨q2,h1⟩
 .cases h2;exact absurd rfl (hn _ h1)
theorem oV{C:Cx}{scope:Scope}{target:Expr}{tg:Tg}{is:List Nat}(h:TQ C (gP C scope target tg) scope is=true):iA C (gP C scope target tg) scope is:=by
 unfold TQ at h;refine yS h λh1 h2 h3 h4 h5=>?_;have nc:∀x∈scope.names,x.2≠.cell:=λx hx q=>by have:=gQ h2 x hx;rw[q]at this;cases this
 have hk:(gP C scope target tg).kinds=EV scope.names C.kinds:=VS C scope.names;have cellK:∀x,(gP C scope target tg).kinds.lookup x=some .cell->C.kinds.lookup x=some .cell/\(x,NameKind.free)∈scope.names:=λx hx=>KI nc (by rw[<- hk];exact hx);refine⟨(by cases q:scope.kind<;>rw[q]at h1<;>first|rfl|cases h1),nc,λx hx q=>?_,λx hx q=>?_,hk,rfl,rfl,rfl,λx i hx q=>?_,λx i hx q=>?_,cellK,xH h4,xJ h5⟩;.have:=gQ h2 x hx;rw[q]at this;dsimp only at this;rw[gZ]at this;exact mT this
 .have:=gQ h2 x hx;rw[q]at this;dsimp only at this;rw[gZ]at this;exact pW this
 .refine e02 (aX (gQ h3 (x,i) hx)) λa Z=>?_;dsimp only at a;rw[gZ,q]at a;exact WC (lV a rfl)
 .refine e02 (aX (gQ h3 (x,i) hx)) λZ a=>?_;dsimp only at a;rw[gZ,q]at a;exact oI (lV a rfl)
def tgB(C:Cx)(target:Expr)(tg:Tg):Bool:=match tg with
 |.n i=>iT target λx=>wrB C x i
 |.t is=>IK target λes Z Z=>uO (λe i=>iT e λx=>wrB C x i) es is
theorem IV{C x i}(h:aCr C x i=true):(x,i)∈C.names/\(∃k,C.kinds.lookup x=some k/\(k=.local\/k=.cell))/\(x == ("__debug__" : Str))=false:=by refine aLJ λaA=>mO h λh1 h2 h3=>?_;rw[gZ]at h2;exact aA ⟨oI h1,zC h2,aBc h3⟩
theorem sF{x i}(h:wrB S.C x i=true):Wr S x i:=by
 refine e02 (aX h) λh1 h=>⟨oI h1,?_⟩;rw[gZ]at h;rcases mQ h with q|q;.exact .inl (mT q)
 .exact e02 (aX q) λq1 q2=>.inr ⟨pW q1,by cases z:S.C.comp with|false=>rfl|true=>rw[z]at q2;cases q2⟩
theorem sI{e t}(h:tgB S.C e t=true):TgR S e t:=by
 cases t with
 |n i=>exact dH (P:=λe=>TgR S e (.n i)) h λx p h=>.n (sF h)
 |t is=>exact sZ h λes k p h=>.t (fE (λe i q=>dH (P:=λe=>∃x q,e=Expr.Name x q/\Wr S x i) q λx p q=>⟨x,p,rfl,sF q⟩) h)
def ckE(I:Nm)(ih:Ck)(C:Cx)(e:Expr)(c:CE):Bool:=match c with
 |.c v=>IN e λco=>coB v co
 |.loc i=>iT e λx=>aCr C x i
 |.glo k=>iT e λx=>sel (sE (I.T.gn k) x) (sel (Nat.blt k I.T.ng) (lA C x) false) false
 |.bin op a b=>PU e λx o y=>sel (boB o op) (sel (ih.e C x a) (ih.e C y b) false) false
 |.neg a=>BE e λo x=>sel (QZ o) (ih.e C x a) false
 |.inv a=>BE e λo x=>sel (aBf o) (ih.e C x a) false
 |.not a=>BE e λo x=>sel (RD o) (ih.e C x a) false
 |.and cs=>BK e λo es=>sel (RM o) (sel (cW (gH es)) (uO (ih.e C) es cs) false) false
 |.or cs=>BK e λo es=>sel (aCA o) (sel (cW (gH es)) (uO (ih.e C) es cs) false) false
 |.cmp op a b=>PR e λx os ys=>on1 os λo=>on1 ys λy=>sel (ccB o op) (sel (ih.e C x a) (sel (ih.e C y b) (cW (behindInMarks o y)) false) false) false
 |.cmp2 o1 o2 a b c=>PR e λx os ys=>on2 os λp1 p2=>on2 ys λy z=>sel (ccB p1 o1) (sel (ccB p2 o2) (sel (ih.e C x a) (sel (ih.e C y b) (sel (ih.e C z c) (cW (lastMarks [p1,p2] [y,z])) false) false) false) false) false
 |.ife t a b=>PJ e λx y z=>sel (ih.t C x t) (sel (ih.e C y a) (ih.e C z b) false) false
 |.call f args=>orB (xG e λx es=>sel (I.pl f) (sel (sE (I.T.fn f) x) (sel (fnB I C f) (sel (lA C x) (jD ih C es args) false) false) false) false)
  (IM e λy a ap es p=>iT y λx=>sel (sE a (Str.ofString "__init__")) (sel (RV I x f I.T.nc) (sel (fnB I C f) (sel (lA C x) (sel (IW ap p es) (jD ih C es args) false) false) false) false) false)
 |.new c args=>xG e λx es=>sel (sE (I.T.cn c) x) (sel (Nat.ble I.T.nx c) (sel (Nat.blt c I.T.nc) (sel (fnB I C (I.it c)) (sel (lA C x) (jD ih C es args) false) false) false) false) false
 |.excinit args=>IM e λy a ap es p=>iT y λx=>sel (sE a (Str.ofString "__init__")) (sel (sE x (Str.ofString "Exception")) (sel (lA C x) (sel (IW ap p es) (jD ih C es args) false) false) false) false
 |.bi b args=>xG e λx es=>sel (sE x (biN b)) (sel (CL (RA b) (cW C.hs)) (sel (lA C x) (jD ih C es args) false) false) false
 |.meth m o args=>IM e λy a ap es p=>sel (sE a (IR m)) (sel (mU y) (sel (IW ap p es) (sel (ih.e C y o) (Bool.rec (jD ih C es args) (YT C es args) (RB m)) false) false) false) false
 |.attr o a=>BM e λx n Z=>sel (sE (I.T.an a) n) (sel (Nat.blt a I.T.na) (sel (mU x) (ih.e C x o) false) false) false
 |.sub o i=>BF e λx y=>sel (iV y) (sel (ih.e C x o) (ih.e C y i) false) false
 |.slice o lo hi=>BF e λx s=>aAZ s λy z w=>onS y λy=>onS z λz=>onN w (sel (ih.e C x o) (sel (ih.e C y lo) (ih.e C z hi) false) false)
 |.lst cs=>aA2 e λes=>jD ih C es cs
 |.tup cs=>IK e λes Z Z=>jD ih C es cs
 |.dict0=>aA9 e λks es=>onE ks (onE es true)
 |.comp elt tg src ifs=>aA3 e λy gs scope=>on1 gs λg=>sel (eqB g.is_async 0) (sel (cW C.hs) (sel (cW C.comp) (sel (kY g.iter) (sel (ih.e C g.iter src) (sel (TQ C (gP C scope g.target tg) scope tg.is)
  (sel (ih.e (gP C scope g.target tg) y elt) (sel (uO (ih.t (gP C scope g.target tg)) g.ifs ifs) (tgB (gP C scope g.target tg) g.target tg) false) false) false) false) false) false) false) false
 |.fstr cs=>aA4 e λes=>sel (Nat.ble 2 (bC es)) (sel (Nat.ble (bC cs) 10) (uO (λe c=>match c with
  |.c v=>IN e λco=>IL co λZ=>coB v co
  |.fmt c=>aA7 e λx i f=>onN f (sel (eqB i (-1)) (ih.e C x c) false)
  |_=>false) es cs) false) false
 |.fmt _=>false
def inN(l:List Nat)(n:Nat):Bool:=List.rec false (λa Z ih=>sel (Nat.beq a n) true ih) l
def EJ(e:Expr):Bool:=inN [2,16,19,20,21,23] e.ctorIdx
def ckT(I:Nm)(ih:Ck)(C:Cx)(e:Expr)(c:CE):Bool:=match c with
 |.and cs=>BK e λo es=>sel (RM o) (sel (cW (gH es)) (uO (ih.t C) es cs) false) false
 |.or cs=>BK e λo es=>sel (aCA o) (sel (cW (gH es)) (uO (ih.t C) es cs) false) false
 |.not a=>BE e λo x=>sel (RD o) (ih.t C x a) false
 |.ife t a b=>PJ e λx y z=>sel (ih.t C x t) (sel (ih.t C y a) (ih.t C z b) false) false
 |.cmp op a b=>ckE I ih C e (.cmp op a b)
 |.cmp2 o1 o2 a b c=>ckE I ih C e (.cmp2 o1 o2 a b c)
 |c=>sel (EJ e) (ckE I ih C e c) false
noncomputable def aCB(e:Expr):Bool:=Nat.beq e.ctorIdx 8
def aC8(ih:Ck)(C:Cx)(x a:Expr)(t:Tg)(e:CE):Bool:=match t with
 |.n i=>iT x λx=>sel (wrB C x i) (sel (orB (gN a) (aCB a)) (ih.e C a e) false) false
 |.t is=>IK x λes k p=>sel (tgB C (.Tuple es k p) (.t is)) (sel (cW C.hs) (sel (YS a) (ih.e C a e) false) false) false
def ckS(I:Nm)(ih:Ck)(C:Cx)(st:Stmt)(c:CS):Bool:=match c with
 |.asg t e=>IP st λts a=>on1 ts λx=>aC8 ih C x a t e
 |.setA o a e=>IP st λts x=>on1 ts λw=>BM w λy n Z=>sel (sE (I.T.an a) n) (sel (Nat.blt a I.T.na) (sel (gN x) (sel (ih.e C x e) (ih.e C y o) false) false) false) false
 |.setI o i e=>IP st λts x=>on1 ts λw=>BF w λy z=>sel (gN x) (sel (ih.e C x e) (sel (ih.e C y o) (ih.e C z i) false) false) false
 |.aug i op e=>IO st λw o a=>iT w λx=>sel (boB o op) (sel (wrB C x i) (sel (QL (lkp C.kinds x)) (ih.e C a e) false) false) false
 |.augA o a op e=>IO st λw q x=>BM w λy n Z=>sel (boB q op) (sel (sE (I.T.an a) n) (sel (Nat.blt a I.T.na) (sel (ih.e C y o) (ih.e C x e) false) false) false) false
 |.augI o i op e=>IO st λw q x=>BF w λy z=>sel (boB q op) (sel (iV z) (sel (ih.e C y o) (sel (ih.e C z i) (ih.e C x e) false) false) false) false
 |.ex e=>aA8 st λa=>sel (gN a) (ih.e C a e) false
 |.ret e=>aA0 st λa=>onS a λa=>ih.e C a e
 |.ifs t a b=>aA5 st λx A B=>sel (ih.t C x t) (sel (ih.b C A a) (ih.b C B b) false) false
 |.whl t b=>aAX st λx B D=>onE D (sel (cW C.comp) (sel (ih.t C x t) (ih.b C B b) false) false)
 |.for t src b=>aA6 st λtarget a body D=>onE D (sel (cW C.hs) (sel (cW C.comp) (sel (ih.e C a src) (sel (kY a) (sel (tgB C target t) (ih.b C body b) false) false) false) false) false)
 |.raise c args=>aA1 st λx y=>onN y (onS x λx=>xG x λx es=>sel (sE (I.T.cn c) x) (sel (Nat.blt c I.T.nx) (sel (fnB I C (I.it c)) (sel (lA C x) (sel (Nat.blt (bC es) 20) (jD ih C es args) false) false) false) false) false)
 |.try b c nm h=>aAY st λbody hs D F=>onE D (onE F (on1 hs fun
  |.ExceptHandler ty nS suite _=>onS ty λty=>iT ty λx=>sel (cW (gH suite)) (sel (cW C.comp) (sel (Nat.blt c I.T.nx) (sel (sE (I.T.cn c) x) (sel (lA C x)
   (sel (match nS,nm with|none,none=>true|some y,some i=>sel (BW C.names y i) (oJ (lkp C.kinds y)) false|_,_=>false)
   (sel (ih.b C body b) (ih.b { C with hs:=true } suite h) false) false) false) false) false) false) false))
 |.cont=>aBa st λZ=>true
def ckB(I:Nm)(ih:Ck)(C:Cx)(b:List Stmt)(cs:List CS):Bool:=match b,cs with
 | [],[]=>true
 |st::r,c::rc=>sel (ckS I ih C st c) (ih.b C r rc) false
 |_,_=>false
def chk(I:Nm)(n:Nat):Ck:=Nat.rec ⟨λZ Z Z=>false,λZ Z Z=>false,λZ Z Z=>false⟩ (λZ ih=>⟨ckE I ih,ckT I ih,ckB I ih⟩) n
structure kA(k:Kit)(I:Nm)(fi:Nat->FnI):Prop where
 kit:bX k
 tab:I.T=k.T
 it:I.it=k.it
 fn:∀i,i<k.T.nf->wG k (fi i) (k.ft i)
 rk:∀i,i<k.T.nf->(fi i).rank=I.rk i
 fnN:∀i,i<k.T.nf->I.pl i=true->k.mg (k.T.fn i)=some (.ref (fi i).a)
 cn:∀c,c<k.T.nc->k.mg (k.T.cn c)=some (.ref (k.T.ca c))
 cls:∀c,k.T.nx<=c->c<k.T.nc->UI k c (fi (k.it c))
 exc:∀c,c<k.T.nx->dR k.K (k.T.ca c)=true/\keepIn k.K (.ref (k.T.ca c))=true/\findIn k.K (.ref (k.T.ca c)) "__init__" = some (some (.ref (fi (k.it c)).a))/\
  typeIn k.K (.ref (fi (k.it c)).a)=some (.type "function")/\instIn k.K (.ref (k.T.ca c)) (.type "tuple")=some false
 ini:∀c,c<k.T.nc->UG k (k.T.ca c) (fi (k.it c))
 sup:∀a c,a<k.T.nx->c<k.T.nx->k.sup a c=true->subIn k.K (.ref (k.T.ca a)) (.ref (k.T.ca c))=some true
 excI:findCls k.K (.type "Exception") (.type "type") "__init__" = some (.val (.builtin "Exception.__init__"))
 bi:∀b,k.mg (biN b)=none/\k.mb (biN b)=some (biV b)
 excN:k.mg (Str.ofString "Exception")=none/\k.mb (Str.ofString "Exception")=some (.type "Exception")
 body:∀i,i<k.T.nf->∀hs,hs=false\/I.hsF i=true->∃N,(chk I N).b ((fi i).cx hs) (fi i).body (k.ft i).body=true
structure PP(k:Kit)(I:Nm)(n:Nat):Prop where
 e:∀N (S:Sit),S.k=k->S.OK->∀e c,(chk I N).e S.C e c=true->aH S ((k.ev n).e c) e
 t:∀N (S:Sit),S.k=k->S.OK->∀e c,(chk I N).t S.C e c=true->dC S ((k.ev n).e c) e
 b:∀N (S:Sit),S.k=k->S.OK->∀b c,(chk I N).b S.C b c=true->bT S (λl s=>(k.ev n).b c l s) (execs b S.env)
theorem cB{b:Bool}(h:cW b=true):b=false:=by cases b<;>first|rfl|cases h
theorem lY{l:List α}(h:cW (gH l)=true):l≠[]:=by rintro rfl;cases h
theorem nK(ok:S.OK):S.A.units+5<cLine:=by have:=ok.room.units;rw[show cLine=9900 from rfl];exact aGv this
theorem mul_one:n=n:=rfl
section
variable {k:Kit}{I:Nm}{fi:Nat->FnI}{n N:Nat}{S:Sit}
theorem fR(ih:PP k I n)(hk:S.k=k)(ok:S.OK)(h:jD (chk I N) S.C es cs=true):cU (λe c=>bJ e=true/\aH S ((k.ev n).e c) e) es cs:=
 fE (λe c q=>e02 (aX q) λq1 q2=>⟨q1,ih.e N S hk ok e c q2⟩) h
theorem JF(pk:kA k I fi)(ih:PP k I n){C:Cx}{f:Nat}(h:fnB I C f=true):f<k.T.nf/\(fi f).rank<C.rank/\
 ∀S':Sit,S'.k=k->S'.C=(fi f).cx C.hs->S'.OK->bT S' (λl s=>(k.ev n).b (k.ft f).body l s) (execs (fi f).body S'.env):=by
 refine mO h λh1 h2 h3=>?_;rw[pk.tab]at h1;have hf:=aC.mp h1;refine⟨hf,by rw[pk.rk f hf];exact aC.mp h2,λS' hk hC ok=>?_⟩;have hc:C.hs=false\/I.hsF f=true:=by
  rcases mQ h3 with q|q;.exact .inl (cB q)
  .exact .inr q
 refine e11 (pk.body f hf C.hs hc) λN' hN=>?_;exact ih.b N' S' hk ok _ _ (by rw[hC];exact hN)
theorem zD{a p:Pos}(h:IW a p es=true):(a.endLine == p.line)=true/\es.length<20:=by refine eY h λh1 h2=>?_;have:=aC.mp h2;rw[aD]at this;exact⟨by rw[aLU h1,beq_self_eq_true],this⟩
theorem TH(pk:kA k I fi)(ih:PP k I n)(hk:S.k=k)(ok:S.OK){c:CE}(h:ckE I (chk I N) S.C e c=true):aH S ((k.ev (n+1)).e c) e:=by
 have tab:=pk.tab;have itE:=pk.it;have KO:=pk.kit;subst hk;cases c with
 |c v=>unfold ckE at h;dsimp only at h;exact nW h λco k p h=>XH (GJ h)
 |loc i=>unfold ckE at h;dsimp only at h;exact dH h λx p h=>aLJ λaA=>e03 (IV h) λh1 yP h4=>e12 yP λkd h2 h3=>aA (SE ok h1 h2 h3 h4)
 |glo j=>unfold ckE at h;dsimp only at h;refine dH h λx p h=>mO h λh1 h2 h3=>e02 (eR h3) λh4 h5=>?_;rw[tab]at h1 h2;exact aIr ok KO (aC.mp h2) (eD h1) h4 h5
 |bin op a b=>unfold ckE at h;dsimp only at h;exact BL h λx o y p h=>mO h λh1 h2 h3=>rwl (zP h1 ..) (aIt (ih.e N S rfl ok _ _ h2) (ih.e N S rfl ok _ _ h3))
 |neg a=>unfold ckE at h;dsimp only at h;exact nU h λo x p h=>eY h λh0 h=>rwl (LG h0 ..) (aIn (ih.e N S rfl ok _ _ h))
 |inv a=>unfold ckE at h;dsimp only at h;exact nU h λo x p h=>eY h λh0 h=>rwl (RI h0 ..) (aIp (ih.e N S rfl ok _ _ h))
 |not a=>unfold ckE at h;dsimp only at h;exact nU h λo x p h=>eY h λh0 h=>rwl (CB h0 ..) (aIl (ih.e N S rfl ok _ _ h))
 |and cs=>unfold ckE at h;dsimp only at h;exact nZ h λo es p h=>eY h λh0 h=>rwl (CG h0 ..) (eY h λh1 h2=>aIu (fE (λe c q=>ih.e N S rfl ok e c q) h2) (lY h1))
 |or cs=>unfold ckE at h;dsimp only at h;exact nZ h λo es p h=>eY h λh0 h=>rwl (JA h0 ..) (eY h λh1 h2=>aK7 (fE (λe c q=>ih.e N S rfl ok e c q) h2) (lY h1))
 |cmp op a b=>unfold ckE at h;dsimp only at h;refine nY h λx os ys p h=>eT h λo h=>eT h λy h=>yT h λh1 h2 h3 h4=>?_;replace h4:=(gJ h1)▸h4;exact rwl (gJ h1 ..) (aIs KO (nK ok) (ih.e N S rfl ok _ _ h2) (ih.e N S rfl ok _ _ h3) (cB h4))
 |cmp2 o1 o2 a b c=>unfold ckE at h;dsimp only at h;refine nY h λx os ys p h=>pJ h λp1 p2 h=>pJ h λy z h=>AO h λh1 h1' h2 h3 h4 h5=>?_;replace h5:=(gJ h1')▸(gJ h1)▸h5;exact rwl (gJ h1 ..) (rwl (gJ h1' ..) (aCJ KO (nK ok) (ih.e N S rfl ok _ _ h2) (ih.e N S rfl ok _ _ h3) (ih.e N S rfl ok _ _ h4) (cB h5)))
 |ife t a b=>unfold ckE at h;dsimp only at h;exact BH h λx y z p h=>mO h λh1 h2 h3=>aIq (ih.t N S rfl ok _ _ h1) (ih.e N S rfl ok _ _ h2) (ih.e N S rfl ok _ _ h3)
 |call f args=>
  unfold ckE at h;dsimp only at h;rcases mQ h with h|h;.refine iU h λx q es p h=>yS h λh1 h2 h3 h4 h5=>e03 (JF pk ih h3) λhf hr hb=>e02 (eR h4) λg1 g2=>?_;replace h2:=(tab)▸h2;exact aCK ok KO (pk.fn f hf) hb hr (by rw[<- eD h2];exact pk.fnN f hf h1) g1 g2 (fR ih rfl ok h5)
  .refine tC h λy a ap es p h=>dH h λx q h=>AO h λh1 h2 h3 h4 h5 h6=>e03 (JF pk ih h3) λhf hr hb=>e02 (eR h4) λg1 g2=>e02 (zD h5) λl1 l2=>e13 (RU h2) λcc c1 c2 c3=>?_;rw[tab]at c1 c3;rw[itE]at c2;refine rwl (eD h1 ..) ?_;subst c2;exact XI ok KO (pk.fn _ hf) (pk.ini cc c1) hb hr (by rw[c3];exact pk.cn cc c1) g1 g2 l1 l2 (fR ih rfl ok h6)
 |new c args=>unfold ckE at h;dsimp only at h;refine iU h λx q es p h=>AO h λh1 h2 h2' h3 h4 h5=>e03 (JF pk ih h3) λhf hr hb=>e02 (eR h4) λg1 g2=>?_;rw[tab]at h1 h2 h2';rw[itE]at hf hr hb;have c1:=aLK h2;have c2:=aC.mp h2';exact aIm ok KO (pk.fn _ hf) (pk.cls c c1 c2) ⟨c1,c2⟩ hb hr (by rw[<- eD h1];exact pk.cn c c2) g1 g2 (fR ih rfl ok h5)
 |excinit args=>unfold ckE at h;dsimp only at h;refine tC h λy a ap es p h=>dH h λx q h=>yS h λh1 h2 h4 h5 h6=>aLJ λaA=>e02 (eR h4) λg1 g2=>e02 (zD h5) λl1 l2=>aA ?_;rw[eD h1];exact LS ok KO (λc hc=>(pk.exc c hc).1) pk.excI g1 (by rw[eD h2];exact pk.excN.1) (by rw[eD h2];exact pk.excN.2) g2 l1 l2 (fR ih rfl ok h6)
 |bi b args=>
  unfold ckE at h;dsimp only at h;refine iU h λx q es p h=>yT h λh1 h2 h4 h5=>e02 (eR h4) λg1 g2=>?_;have hx:=eD h1;have b1:=(pk.bi b).1;have b2:=(pk.bi b).2;rw[<- hx]at b1 b2;cases b with
  |sorted=>exact SD ok KO (cB (lV h2 rfl)) g1 b1 b2 g2 (fR ih rfl ok h5)
  |_=>exact aK8 ok KO rfl g1 b1 b2 g2 (fR ih rfl ok h5)
 |meth m o args=>
  unfold ckE at h;dsimp only at h;refine tC h λy a ap es p h=>yS h λh1 h2 h3 h4 h5=>e02 (zD h3) λl1 l2=>?_;rw[eD h1];have go:=ih.e N S rfl ok _ _ h4;cases q:RB m with
  |false=>rw[q]at h5;exact aCG KO (by rintro rfl;cases q) h2 l1 l2 go (fR ih rfl ok h5)
  |true=>
   rw[q]at h5;obtain rfl:m=.replace:=by cases m<;>first|rfl|cases q
   have h5:YT S.C es args=true:=h5;refine pJ h5 λe1 e2 h6=>pJ h6 λc1 c2 h5=>?_;clear h6;refine KU h5 λi h5=>KT h5 λj h5=>BL h5 λu oo v pp h5=>eY h5 λr0 h5=>nW h5 λw kk qq h5=>OY h5 λd h5=>dH h5 λx px h5=>iU h5 λxs q1 ys q2 h5=>eT h5 λyy h5=>dH h5 λy2 q3 h5=>rwl (LI r0 ..) (AO h5 λr1 r2 r3 r4 r5 r6=>e02 (eR r6) λg1 g2=>e03 (IV r5) λm1 yP m4=>e12 yP λkd m2 m3=>?_);have r1:=eD r1;have r2:=eD r2;have r3:=eD r3;have r4:=aLU r4;subst r1 r2 r3 r4;exact LR ok KO h2 l1 rfl g1 (pk.bi .str).1 (pk.bi .str).2 n go (SE ok m1 m2 m3 m4) (SE ok m1 m2 m3 m4)
 |attr o a=>unfold ckE at h;dsimp only at h;refine oA h λx n' p h=>yT h λh1 h2 h3 h4=>?_;rw[tab]at h1 h2;exact rwr (eD h1 ..) (aCL KO (ih.e N S rfl ok _ _ h4) (aC.mp h2) h3)
 |sub o i=>unfold ckE at h;dsimp only at h;exact nV h λx y p h=>mO h λh1 h2 h3=>aIk (ih.e N S rfl ok _ _ h2) (ih.e N S rfl ok _ _ h3) h1
 |slice o lo hi=>unfold ckE at h;dsimp only at h;exact nV h λx s p h=>PB h λy' z' w' p' h=>tA h λy h=>tA h λz h=>FH h λh=>mO h λh1 h2 h3=>XF (ih.e N S rfl ok _ _ h1) (ih.e N S rfl ok _ _ h2) (ih.e N S rfl ok _ _ h3)
 |lst cs=>unfold ckE at h;dsimp only at h;exact PF h λes p h=>aIo (fR ih rfl ok h)
 |tup cs=>unfold ckE at h;dsimp only at h;exact sZ h λes k p h=>aIj (fR ih rfl ok h)
 |dict0=>unfold ckE at h;dsimp only at h;exact PN h λks es p h=>jN h λh=>jN h λh=>XG KO
 |comp elt tg src ifs=>unfold ckE at h;dsimp only at h;refine BG h λy gs scope p h=>eT h λg h=>?_;obtain⟨target,iter,ts,za⟩:=g;refine eY h λh0 h=>?_;rw[eO]at h0;obtain rfl:za=0:=of_decide_eq_true h0;exact VH h λh1 h2 h3 h4 h5 h6 h7 h8=>aCI ok (cB h1) (cB h2) (oV h5) (ih.e N S rfl ok _ _ h4) h3 λS' hk' hC' ok'=>⟨ih.e N S' hk' ok' _ _ (by rw[hC'];exact h6),fE (λe c q=>ih.t N S' hk' ok' e c (by rw[hC'];exact q)) h7,sI (by rw[hC'];exact h8)⟩
 |fstr cs=>
  unfold ckE at h;dsimp only at h;refine PH h λes p h=>mO h λh1 h2 h3=>?_;have l1:=aLK h1;have l2:=aLK h2;rw[aD]at l1 l2;refine aCH (fE (λe c q=>?_) h3) l1 l2;cases c with
  |c v=>
   refine nW q λco k p q=>e12 (OX q) λs aE q=>?_;subst aE;cases GJ q with
   |str l hl=>exact .txt hl
  |fmt c=>refine PL q λx v f p q=>FH q λq=>eY q λh0 q=>?_;rw[eO]at h0;obtain rfl:v = -1:=of_decide_eq_true h0;exact .fmt (ih.e N S rfl ok _ _ q)
  |_=>cases q
 |fmt e=>cases h
end
section
variable {k:Kit}{I:Nm}{fi:Nat->FnI}{n N:Nat}{S:Sit}
theorem FC(h:EJ e=true)(env:Env):isTrue e env (eval e env)=(do let v <- eval e env;standAt e.pos;holding [v] (truthy v)):=by cases e<;>first|rfl|cases h
theorem aBT(pk:kA k I fi)(ih:PP k I n)(hk:S.k=k)(ok:S.OK){c:CE}(h:ckT I (chk I N) S.C e c=true):dC S ((k.ev (n+1)).e c) e:=by
 have rest:sel (EJ e) (ckE I (chk I N) S.C e c) false=true->dC S ((k.ev (n+1)).e c) e:=λh=>eY h λh1 h2=>UZ (TH pk ih hk ok h2) (FC h1 _);have KO:=pk.kit;subst hk;cases c with
 |and cs=>unfold ckT at h;dsimp only at h;exact nZ h λo es p h=>eY h λh0 h=>rwl (CG h0 ..) (eY h λh1 h2=>aDu (fE (λe c q=>ih.t N S rfl ok e c q) h2) (lY h1) _)
 |or cs=>unfold ckT at h;dsimp only at h;exact nZ h λo es p h=>eY h λh0 h=>rwl (JA h0 ..) (eY h λh1 h2=>aJq (fE (λe c q=>ih.t N S rfl ok e c q) h2) (lY h1) _)
 |not a=>unfold ckT at h;dsimp only at h;exact nU h λo x p h=>eY h λh0 h=>rwl (CB h0 ..) (aDr (ih.t N S rfl ok _ _ h))
 |ife t a b=>unfold ckT at h;dsimp only at h;exact BH h λx y z p h=>mO h λh1 h2 h3=>aDs (ih.t N S rfl ok _ _ h1) (ih.t N S rfl ok _ _ h2) (ih.t N S rfl ok _ _ h3)
 |cmp op a b=>unfold ckT ckE at h;dsimp only at h;refine nY h λx os ys p h=>eT h λo h=>eT h λy h=>yT h λh1 h2 h3 h4=>?_;replace h4:=(gJ h1)▸h4;exact rwl (gJ h1 ..) (aDt KO (nK ok) (ih.e N S rfl ok _ _ h2) (ih.e N S rfl ok _ _ h3) (cB h4))
 |cmp2 o1 o2 a b c=>unfold ckT ckE at h;dsimp only at h;refine nY h λx os ys p h=>pJ h λp1 p2 h=>pJ h λy z h=>AO h λh1 h1' h2 h3 h4 h5=>?_;replace h5:=(gJ h1')▸(gJ h1)▸h5;exact rwl (gJ h1 ..) (rwl (gJ h1' ..) (aBV KO (nK ok) (ih.e N S rfl ok _ _ h2) (ih.e N S rfl ok _ _ h3) (ih.e N S rfl ok _ _ h4) (cB h5)))
 |_=>exact rest h
theorem sL(y:Expr)(gs:List Comprehension)(scope:Scope)(cp p':Pos)(x:Str)(ln:Nat)(env:Env):∃b,swapsWith (.ListComp y gs scope cp) (some (.Name x p')) ln env=pure b:=⟨_,rfl⟩
set_option tactic.hygienic true in
theorem ES(pk:kA k I fi)(ihs:∀m,m<=n->PP k I m)(hk:S.k=k)(ok:S.OK){st:Stmt}{c:CS}(h:ckS I (chk I N) S.C st c=true):bT S (λl s=>stepS k.ft k.it k.sup (k.ev n) c l s) (exec st S.env):=by
 have tab:=pk.tab;have itE:=pk.it;have KO:=pk.kit;have ih:=ihs n (aLO _);subst hk;cases c with
 |asg t e=>
  unfold ckS at h;dsimp only at h;refine oB h λts a pos h=>eT h λx0 h=>?_;unfold aC8 at h;cases t with
  |n i=>
   dsimp only at h;refine dH h λx p' h=>mO h λh1 h2 h3=>?_;have w:=sF h1;rcases mQ h2 with q|q;.exact aDF ok w (ih.e N S rfl ok _ _ h3) q
   .obtain⟨y,gs,scope,cp,rfl⟩:∃y gs scope cp,a=.ListComp y gs scope cp:=by cases a<;>first|exact⟨_,_,_,_,rfl⟩|cases q
    obtain⟨b,hb⟩:=(sL y gs scope cp p' x pos.line S.env);cases b with
    |false=>exact aB9 ok w (ih.e N S rfl ok _ _ h3) hb
    |true=>
     cases n with
     |zero=>exactλl G σ s Z Z Z hn=>absurd rfl hn
     |succ m=>
      have ihm:=ihs m (aLV m);cases N with
      |zero=>cases h3
      |succ N=>
       have h3:ckE I (chk I N) S.C (.ListComp y gs scope cp) e=true:=h3;cases e<;>try (unfold ckE at h3;dsimp only at h3;cases h3;done)
       rename_i elt tg src ifs;unfold ckE at h3;dsimp only at h3;have h3:on1 gs _=true:=h3;refine eT h3 λg h3=>?_;obtain⟨target,iter,ts,za⟩:=g;refine eY h3 λh0 h3=>?_;rw[eO]at h0;obtain rfl:za=0:=of_decide_eq_true h0;exact VH h3 λh1 h2 h3 h4 h5 h6 h7 h8=>aB7 (ih:=S.k.ev m) ok (cB h1) (cB h2) (oV h5) w (ihm.e N S rfl ok _ _ h4) h3 (λS' hk' hC' ok'=>⟨ihm.e N S' hk' ok' _ _ (by rw[hC'];exact h6),fE (λe c q=>ihm.t N S' hk' ok' e c (by rw[hC'];exact q)) h7,sI (by rw[hC'];exact h8)⟩) hb
  |t is=>dsimp only at h;exact sZ h λes kk p h=>yT h λh1 h2 h3 h4=>aB8 ok (cB h2) (sI h1) (ih.e N S rfl ok _ _ h4) h3
 |setA o a e=>unfold ckS at h;dsimp only at h;refine oB h λts x p h=>eT h λw h=>oA h λy n' q h=>yS h λh1 h2 h3 h4 h5=>?_;rw[tab]at h1 h2;exact rwr (eD h1 ..) (aB3 KO (aC.mp h2) (ih.e N S rfl ok _ _ h4) (ih.e N S rfl ok _ _ h5) h3)
 |setI o i e=>unfold ckS at h;dsimp only at h;exact oB h λts x p h=>eT h λw h=>nV h λy z q h=>yT h λh1 h2 h3 h4=>aB2 (ih.e N S rfl ok _ _ h2) (ih.e N S rfl ok _ _ h3) (ih.e N S rfl ok _ _ h4) h1
 |aug i op e=>unfold ckS at h;dsimp only at h;refine tD h λw o a p h=>dH h λx q h=>yT h λh1 h2 h3 h4=>?_;rw[gZ]at h3;exact rwl (zP h1 ..) (e12 (zC h3) λkd q1 q2=>aDE ok (sF h2) (q2.imp (λq=>by rw[q1,q]) λq=>by rw[q1,q]) (ih.e N S rfl ok _ _ h4))
 |augA o a op e=>unfold ckS at h;dsimp only at h;refine tD h λw q x p h=>oA h λy n' q' h=>yS h λh1 h2 h3 h4 h5=>?_;rw[tab]at h2 h3;exact rwr (eD h2 ..) (rwl (zP h1 ..) (aB6 KO (aC.mp h3) (ih.e N S rfl ok _ _ h4) (ih.e N S rfl ok _ _ h5)))
 |augI o i op e=>unfold ckS at h;dsimp only at h;refine tD h λw q x p h=>nV h λy z q' h=>yS h λh1 h2 h3 h4 h5=>?_;rw[zP h1];exact aB5 (ih.e N S rfl ok _ _ h3) (ih.e N S rfl ok _ _ h4) (ih.e N S rfl ok _ _ h5) h2
 |ex e=>unfold ckS at h;dsimp only at h;exact PM h λa p h=>eY h λh1 h2=>aJw ok (ih.e N S rfl ok _ _ h2) h1
 |ret e=>unfold ckS at h;dsimp only at h;exact PC h λa' p h=>tA h λa h=>aDC (ih.e N S rfl ok _ _ h)
 |ifs t a b=>unfold ckS at h;dsimp only at h;exact PI h λx A B p h=>mO h λh1 h2 h3=>aJv (ih.t N S rfl ok _ _ h1) (ih.b N S rfl ok _ _ h2) (ih.b N S rfl ok _ _ h3)
 |whl t b=>unfold ckS at h;dsimp only at h;exact OV h λx A B p h=>jN h λh=>mO h λh1 h2 h3=>aDA ok (cB h1) n (λm hm=>(ihs m hm).t N S rfl ok _ _ h2) λm hm=>(ihs m hm).b N S rfl ok _ _ h3
 | «for» t src b=>unfold ckS at h;dsimp only at h;exact PK h λx a A B p h=>jN h λh=>AO h λh1 h2 h3 h4 h5 h6=>aDD ok (cB h1) (cB h2) (ih.e N S rfl ok _ _ h3) h4 (sI h5) λt o=>ih.b N (S.pin t o) rfl ok.pin _ _ h6
 |raise c args=>unfold ckS at h;dsimp only at h;refine PD h λx' y p h=>FH h λh=>tA h λx'' h=>iU h λx q es p' h=>AO h λh1 h2 h3 h4 h5 h6=>aLJ λaA=>e03 (JF pk ih h3) λhf hr hb=>?_;obtain⟨g1,g2⟩:=(eR h4);rw[tab]at h1 h2;rw[itE]at hf hr hb;have c1:=aC.mp h2;have l:=aC.mp h5;rw[aD]at l;exact e05 (pk.exc c c1) λe1 e2 e3 e4 e5=>aA (VJ ok KO (pk.fn _ hf) (λc hc=>(pk.exc c hc).1) e2 e3 e4 c1 hb hr (by rw[<- eD h1];exact pk.cn c (aLL c1 KO.nxc)) g1 g2 l (fR ih rfl ok h6))
 | «try» b c nm hh=>
  unfold ckS at h;dsimp only at h;refine OW h λbody hs D F p h=>jN h λh=>jN h λh=>eT h λg h=>?_;obtain⟨ty,nS,suite,p'⟩:=g;refine tA h λty h=>dH h λx q h=>eY h λhsu h=>?_;rcases suite with _|⟨TS,suite⟩;.exact False.elim (by cases hsu)
  refine aDz h λh1 h2 h3 h4 h5 h6 h7=>e02 (eR h4) λg1 g2=>?_;rw[tab]at h2 h3;have c1:=aC.mp h2;refine e05 (pk.exc c c1) λe1 e2 e3 e4 e5=>aDB ok KO (cB h1) (λc hc=>(pk.exc c hc).1) e5 (λa ha hs=>pk.sup a c ha c1 hs) c1 (by rw[<- eD h3];exact pk.cn c (aLL c1 KO.nxc)) g1 g2 ?_ (ih.b N S rfl ok _ _ h6) λa=>ih.b N (S.hnd a) rfl ok.hnd _ _ h7;split at h5;.exact .none
  .refine eY h5 λq1 q2=>?_;rw[gZ]at q2;exact .some (oI q1) (mT q2)
  .exact False.elim (by cases h5)
 |cont=>unfold ckS at h;dsimp only at h;exact PO h λp h=>aB4
theorem aC2(pk:kA k I fi)(ihs:∀m,m<=n->PP k I m)(hk:S.k=k)(ok:S.OK){b:List Stmt}{c:List CS}(h:ckB I (chk I N) S.C b c=true):bT S (λl s=>(k.ev (n+1)).b c l s) (execs b S.env):=by
 unfold ckB at h;split at h;.exact aIV
 .exact eY h λh1 h2=>aC5 (ES pk ihs hk ok h1) ((ihs n (aLO _)).b N S hk ok _ _ h2)
 .exact False.elim (by cases h)
theorem FB(pk:kA k I fi):∀n m,m<=n->PP k I m:=by
 intro x9;induction x9 with
 |zero=>intro m hm;obtain rfl:m=0:=aEt hm;exact⟨λN S hk ok e c h l G σ s Z Z Z hn=>absurd rfl hn,λN S hk ok e c h l G σ s Z Z Z hn=>absurd rfl hn,λN S hk ok e c h l G σ s Z Z Z hn=>absurd rfl hn⟩
 |succ n aQ=>
  intro m hm;rcases Nat.lt_or_ge m (n+1) with q|q;.exact aQ m (aF6 q)
  .obtain rfl:m=n+1:=by exact aFq hm q
   have ihs:=aQ;have ih:=ihs n (aLO _);refine⟨λN S hk ok e c h=>?_,λN S hk ok e c h=>?_,λN S hk ok e c h=>?_⟩
   .cases N with
    |zero=>cases h
    |succ N=>exact TH pk ih hk ok h
   .cases N with
    |zero=>cases h
    |succ N=>exact aBT pk ih hk ok h
   .cases N with
    |zero=>cases h
    |succ N=>exact aC2 pk ihs hk ok h
end
end Mine.Internal
end
noncomputable section
namespace Mine.Internal
noncomputable def fD:List CS:=
 [.ex (.excinit [.loc 0,.loc 1]),
 .setA (.loc 0) 0 (.loc 1)]
noncomputable def qH:List CS:=
 [.ex (.call 0 [.loc 0,.c (.str [110,111,32,115,117,99,104,32,115,113,117,97,114,101])]),
 .setA (.loc 0) 1 (.loc 1)]
noncomputable def rP:List CS:=
 [.ex (.call 0 [.loc 0,.c (.str [110,111,32,115,117,99,104,32,112,105,101,99,101])]),
 .setA (.loc 0) 2 (.loc 1)]
noncomputable def nF:List CS:=
 [.ex (.call 0 [.loc 0,.loc 1]),
 .setA (.loc 0) 1 (.loc 2)]
noncomputable def wE:List CS:=
 [.ex (.call 0 [.loc 0,.loc 2]),
 .setA (.loc 0) 3 (.loc 1)]
noncomputable def iN:List CS:=
 [.ex (.call 0 [.loc 0,.loc 2]),
 .setA (.loc 0) 4 (.loc 1)]
noncomputable def zU:List CS:=
 [.ret (.bin .add (.bin .mul (.loc 0) (.c (.int 8))) (.loc 1))]
noncomputable def MG:List CS:=
 [.ret (.bin .shr (.loc 0) (.c (.int 3)))]
noncomputable def MI:List CS:=
 [.ret (.bin .and (.loc 0) (.c (.int 7)))]
noncomputable def GU:List CS:=
 [.ret (.and [.cmp2 .lt .lt (.c (.int 0)) (.loc 0) (.c (.int 15)),.cmp .ne (.loc 0) (.c (.int 7)),.cmp .ne (.loc 0) (.c (.int 8))])]
noncomputable def DO:List CS:=
 [.ifs (.and [.cmp .ne (.loc 0) (.glo 8),.not (.call 9 [.loc 0])]) [.raise 2 [.loc 0]] [],
 .ret (.sub (.glo 10) (.loc 0))]
noncomputable def GR:List CS:=
 [.ifs (.or [.cmp .ne (.bi .len [.loc 0]) (.c (.int 1)),.cmp .eq (.loc 0) (.c (.str [46]))]) [.ret (.neg (.c (.int 1)))] [],
 .ret (.meth .find (.glo 10) [.loc 0])]
noncomputable def rN:List CS:=
 [.setA (.loc 0) 5 (.loc 1),
 .setA (.loc 0) 6 (.loc 2),
 .setA (.loc 0) 7 (.bin .mul (.loc 1) (.loc 2)),
 .setA (.loc 0) 8 (.bin .sub (.bin .shl (.c (.int 1)) (.bin .mul (.loc 1) (.loc 2))) (.c (.int 1))),
 .setA (.loc 0) 9 (.and [.loc 3,.cmp .ge (.loc 2) (.c (.int 5))]),
 .setA (.loc 0) 10 (.loc 4),
 .setA (.loc 0) 11 (.lst []),
 .setA (.loc 0) 12 (.lst []),
 .setA (.loc 0) 13 (.lst []),
 .setA (.loc 0) 14 (.lst []),
 .setA (.loc 0) 15 (.lst []),
 .setA (.loc 0) 16 (.lst [.lst [],.lst []]),
 .setA (.loc 0) 17 (.lst []),
 .setA (.loc 0) 18 (.lst [])]
noncomputable def zV:List CS:=
 [.ret (.or [.cmp .gt (.sub (.glo 12) (.loc 0)) (.c (.int 0)),.cmp .eq (.loc 0) (.c (.int 1))])]
noncomputable def DU:List CS:=
 [.asg (.n 1) (.bin .sub (.bin .shl (.c (.int 1)) (.attr (.loc 0) 5)) (.c (.int 1))),
 .asg (.n 2) (.c (.int 0)),
 .for (.n 3) (.bi .range [.attr (.loc 0) 6]) [.ex (.meth .append (.attr (.loc 0) 12) [.bin .shl (.loc 1) (.bin .mul (.loc 3) (.attr (.loc 0) 5))]),
 .aug 2 .or (.bin .shl (.c (.int 1)) (.bin .mul (.loc 3) (.attr (.loc 0) 5)))],
 .for (.n 4) (.bi .range [.attr (.loc 0) 5]) [.ex (.meth .append (.attr (.loc 0) 11) [.bin .shl (.loc 2) (.loc 4)])]]
noncomputable def rL:List CS:=
 [.asg (.n 2) (.c (.int 0)),
 .ifs (.cmp .gt (.sub (.glo 11) (.loc 1)) (.c (.int 0))) [.aug 2 .or (.sub (.attr (.loc 0) 11) (.bin .sub (.attr (.loc 0) 5) (.c (.int 1))))] [],
 .ifs (.cmp .lt (.sub (.glo 11) (.loc 1)) (.c (.int 0))) [.aug 2 .or (.sub (.attr (.loc 0) 11) (.c (.int 0)))] [],
 .ifs (.cmp .gt (.sub (.glo 12) (.loc 1)) (.c (.int 0))) [.aug 2 .or (.sub (.attr (.loc 0) 12) (.bin .sub (.attr (.loc 0) 6) (.c (.int 1))))] [],
 .ifs (.cmp .lt (.sub (.glo 12) (.loc 1)) (.c (.int 0))) [.aug 2 .or (.sub (.attr (.loc 0) 12) (.c (.int 0)))] [],
 .ret (.bin .and (.attr (.loc 0) 8) (.inv (.loc 2)))]
noncomputable def GW:List CS:=
 [.setA (.loc 0) 14 (.bin .mul (.lst [.c (.int 0)]) (.attr (.loc 0) 7)),
 .for (.n 1) (.bi .range [.c (.int 8)]) [.asg (.n 2) (.call 15 [.loc 0,.loc 1]),
 .asg (.n 3) (.bin .add (.bin .mul (.sub (.glo 12) (.loc 1)) (.attr (.loc 0) 5)) (.sub (.glo 11) (.loc 1))),
 .asg (.n 4) (.bin .mul (.lst [.c (.int 0)]) (.attr (.loc 0) 7)),
 .asg (.n 5) (.bi .range [.attr (.loc 0) 7]),
 .ifs (.call 13 [.loc 1]) [.asg (.n 5) (.bi .range [.bin .sub (.attr (.loc 0) 7) (.c (.int 1)),.neg (.c (.int 1)),.neg (.c (.int 1))])] [],
 .for (.n 6) (.loc 5) [.ifs (.bin .and (.bin .shr (.loc 2) (.loc 6)) (.c (.int 1))) [.asg (.n 7) (.bin .add (.loc 6) (.loc 3)),
 .setI (.loc 4) (.loc 6) (.bin .or (.sub (.loc 4) (.loc 7)) (.bin .shl (.c (.int 1)) (.loc 7))),
 .augI (.attr (.loc 0) 14) (.loc 6) .or (.bin .shl (.c (.int 1)) (.loc 7))] []],
 .ex (.meth .append (.attr (.loc 0) 13) [.loc 4])]]
noncomputable def DT:List CS:=
 [.for (.n 1) (.bi .range [.attr (.loc 0) 7]) [.ex (.meth .append (.sub (.attr (.loc 0) 16) (.c (.int 0))) [.bin .and (.sub (.attr (.loc 0) 14) (.loc 1)) (.bin .or (.sub (.sub (.attr (.loc 0) 13) (.c (.int 4))) (.loc 1)) (.sub (.sub (.attr (.loc 0) 13) (.c (.int 7))) (.loc 1)))]),
 .ex (.meth .append (.sub (.attr (.loc 0) 16) (.c (.int 1))) [.bin .and (.sub (.attr (.loc 0) 14) (.loc 1)) (.bin .or (.sub (.sub (.attr (.loc 0) 13) (.c (.int 5))) (.loc 1)) (.sub (.sub (.attr (.loc 0) 13) (.c (.int 6))) (.loc 1)))])]]
noncomputable def wC:List CS:=
 [.asg (.n 1) (.attr (.loc 0) 5),
 .asg (.n 2) (.bin .and (.attr (.loc 0) 8) (.inv (.sub (.attr (.loc 0) 11) (.c (.int 0))))),
 .asg (.n 3) (.bin .and (.attr (.loc 0) 8) (.inv (.sub (.attr (.loc 0) 11) (.bin .sub (.loc 1) (.c (.int 1)))))),
 .asg (.n 4) (.bin .and (.loc 2) (.inv (.sub (.attr (.loc 0) 11) (.c (.int 1))))),
 .asg (.n 5) (.bin .and (.loc 3) (.inv (.sub (.attr (.loc 0) 11) (.bin .sub (.loc 1) (.c (.int 2)))))),
 .for (.n 6) (.bi .range [.attr (.loc 0) 7]) [.asg (.n 7) (.bin .shl (.c (.int 1)) (.loc 6)),
 .asg (.n 8) (.bin .or (.bin .and (.bin .shl (.loc 7) (.c (.int 1))) (.loc 2)) (.bin .and (.bin .shr (.loc 7) (.c (.int 1))) (.loc 3))),
 .asg (.n 9) (.bin .or (.bin .and (.bin .shl (.loc 7) (.c (.int 2))) (.loc 4)) (.bin .and (.bin .shr (.loc 7) (.c (.int 2))) (.loc 5))),
 .asg (.n 10) (.bin .or (.bin .or (.bin .or (.bin .shl (.loc 8) (.bin .mul (.c (.int 2)) (.loc 1))) (.bin .shr (.loc 8) (.bin .mul (.c (.int 2)) (.loc 1)))) (.bin .shl (.loc 9) (.loc 1))) (.bin .shr (.loc 9) (.loc 1))),
 .ex (.meth .append (.attr (.loc 0) 15) [.bin .and (.loc 10) (.attr (.loc 0) 8)])]]
noncomputable def wD:List CS:=
 [.setA (.loc 0) 18 (.bin .mul (.lst [.c (.int 0)]) (.attr (.loc 0) 7)),
 .asg (.n 1) (.bin .fdiv (.attr (.loc 0) 5) (.c (.int 2))),
 .for (.n 2) (.bi .range [.c (.int 4)]) [.asg (.n 3) (.bin .mul (.bin .mul (.bin .shr (.loc 2) (.c (.int 1))) (.bin .sub (.attr (.loc 0) 6) (.c (.int 1)))) (.attr (.loc 0) 5)),
 .asg (.n 4) (.bin .sub (.attr (.loc 0) 5) (.c (.int 1))),
 .asg (.n 5) (.c (.int 1)),
 .ifs (.bin .and (.loc 2) (.c (.int 1))) [.asg (.n 4) (.c (.int 0)),
 .asg (.n 5) (.neg (.c (.int 1)))] [],
 .asg (.n 6) (.bin .add (.loc 1) (.bin .mul (.c (.int 2)) (.loc 5))),
 .ifs (.and [.attr (.loc 0) 10,.cmp .gt (.bin .mul (.bin .sub (.loc 4) (.loc 6)) (.loc 5)) (.c (.int 0))]) [.ex (.meth .append (.attr (.loc 0) 17) [.tup [.bin .add (.loc 3) (.loc 1),.bin .add (.loc 3) (.loc 6),.bin .add (.loc 3) (.loc 4),.bin .sub (.bin .add (.loc 3) (.loc 6)) (.loc 5)]]),
 .augI (.attr (.loc 0) 18) (.bin .add (.loc 3) (.loc 1)) .or (.bin .shl (.c (.int 1)) (.loc 2)),
 .augI (.attr (.loc 0) 18) (.bin .add (.loc 3) (.loc 4)) .or (.bin .shl (.c (.int 1)) (.loc 2))] [.ex (.meth .append (.attr (.loc 0) 17) [.c .none])]]]
noncomputable def rK:List CS:=
 [.ifs (.or [.cmp .lt (.loc 0) (.c (.int 2)),.cmp .gt (.loc 0) (.c (.int 8)),.cmp .lt (.loc 1) (.c (.int 3)),.cmp .gt (.loc 1) (.c (.int 8))]) [.raise 0 [.c (.str [110,111,32,98,111,97,114,100,32,104,97,115,32,116,104,97,116,32,109,97,110,121,32,102,105,108,101,115,32,97,110,100,32,114,97,110,107,115])]] [],
 .asg (.n 4) (.new 6 [.loc 0,.loc 1,.loc 2,.loc 3]),
 .ex (.call 14 [.loc 4]),
 .ex (.call 16 [.loc 4]),
 .ex (.call 17 [.loc 4]),
 .ex (.call 18 [.loc 4]),
 .ex (.call 19 [.loc 4]),
 .ret (.loc 4)]
noncomputable def vU:List CS:=
 [.asg (.n 4) (.sub (.sub (.attr (.loc 0) 13) (.loc 1)) (.loc 2)),
 .asg (.n 5) (.bin .and (.loc 4) (.loc 3)),
 .ifs (.cmp .eq (.loc 5) (.c (.int 0))) [.ret (.loc 4)] [],
 .ifs (.call 13 [.loc 1]) [.ret (.bin .and (.loc 4) (.bin .xor (.loc 5) (.bin .sub (.loc 5) (.c (.int 1)))))] [],
 .asg (.n 6) (.bin .shr (.loc 5) (.c (.int 1))),
 .aug 6 .or (.bin .shr (.loc 6) (.c (.int 1))),
 .aug 6 .or (.bin .shr (.loc 6) (.c (.int 2))),
 .aug 6 .or (.bin .shr (.loc 6) (.c (.int 4))),
 .aug 6 .or (.bin .shr (.loc 6) (.c (.int 8))),
 .aug 6 .or (.bin .shr (.loc 6) (.c (.int 16))),
 .aug 6 .or (.bin .shr (.loc 6) (.c (.int 32))),
 .ret (.bin .and (.loc 4) (.inv (.loc 6)))]
noncomputable def uG:List CS:=
 [.asg (.n 3) (.c (.int 0)),
 .for (.n 4) (.bi .range [.c (.int 4)]) [.aug 3 .or (.call 21 [.loc 0,.loc 4,.loc 1,.loc 2])],
 .ret (.loc 3)]
noncomputable def qG:List CS:=
 [.asg (.n 3) (.c (.int 0)),
 .for (.n 4) (.bi .range [.c (.int 4),.c (.int 8)]) [.aug 3 .or (.call 21 [.loc 0,.loc 4,.loc 1,.loc 2])],
 .ret (.loc 3)]
noncomputable def rJ:List CS:=
 [.ret (.cmp .ne (.bin .and (.loc 0) (.bin .sub (.loc 0) (.c (.int 1)))) (.c (.int 0)))]
noncomputable def MJ:List CS:=
 [.ifs (.cmp .eq (.loc 0) (.c (.int 0))) [.ret (.neg (.c (.int 1)))] [],
 .asg (.n 1) (.c (.int 1)),
 .whl (.bin .shr (.loc 0) (.loc 1)) [.aug 1 .mul (.c (.int 2))],
 .asg (.n 2) (.c (.int 0)),
 .whl (.cmp .gt (.loc 1) (.c (.int 1))) [.aug 1 .fdiv (.c (.int 2)),
 .ifs (.bin .shr (.loc 0) (.loc 1)) [.aug 0 .shr (.loc 1),
 .aug 2 .add (.loc 1)] []],
 .ret (.loc 2)]
noncomputable def TZ:List CS:=
 [.ret (.call 25 [.bin .and (.loc 0) (.neg (.loc 0))])]
noncomputable def uK:List CS:=
 [.setA (.loc 0) 19 (.loc 1),
 .setA (.loc 0) 20 (.loc 2),
 .setA (.loc 0) 21 (.loc 3),
 .setA (.loc 0) 22 (.loc 4)]
noncomputable def DJ:List CS:=
 [.asg (.n 1) (.attr (.loc 0) 23),
 .asg (.n 2) (.sub (.attr (.loc 1) 21) (.attr (.loc 0) 21)),
 .ifs (.cmp .ge (.attr (.loc 0) 20) (.c (.int 0))) [.aug 2 .xor (.sub (.attr (.loc 1) 20) (.bin .fmod (.attr (.loc 0) 20) (.attr (.attr (.loc 0) 24) 5)))] [],
 .ifs (.cmp .eq (.attr (.loc 0) 22) (.glo 1)) [.aug 2 .xor (.attr (.loc 1) 22)] [],
 .ret (.loc 2)]
noncomputable def GV:List CS:=
 [.asg (.n 1) (.attr (.attr (.loc 0) 23) 19),
 .asg (.n 2) (.call 28 [.loc 0]),
 .asg (.n 3) (.c (.int 0)),
 .for (.n 4) (.attr (.loc 0) 25) [.ifs (.cmp .ne (.loc 4) (.glo 8)) [.aug 2 .xor (.sub (.sub (.loc 1) (.loc 4)) (.loc 3))] [],
 .aug 3 .add (.c (.int 1))],
 .ret (.loc 2)]
noncomputable def rM:List CS:=
 [.setA (.loc 0) 24 (.loc 1),
 .setA (.loc 0) 23 (.loc 2),
 .setA (.loc 0) 25 (.bin .mul (.lst [.glo 8]) (.attr (.loc 1) 7)),
 .setA (.loc 0) 26 (.bin .mul (.lst [.c (.int 0)]) (.c (.int 7))),
 .setA (.loc 0) 27 (.lst [.c (.int 0),.c (.int 0)]),
 .setA (.loc 0) 22 (.glo 0),
 .setA (.loc 0) 21 (.c (.int 0)),
 .setA (.loc 0) 20 (.neg (.c (.int 1))),
 .setA (.loc 0) 28 (.c (.int 0)),
 .setA (.loc 0) 8 (.c (.int 1)),
 .setA (.loc 0) 29 (.c (.int 0)),
 .setA (.loc 0) 30 (.lst [])]
noncomputable def DN:List CS:=
 [.asg (.n 3) (.bin .shl (.c (.int 1)) (.loc 2)),
 .setI (.attr (.loc 0) 25) (.loc 2) (.loc 1),
 .augI (.attr (.loc 0) 26) (.call 8 [.loc 1]) .or (.loc 3),
 .augI (.attr (.loc 0) 27) (.call 7 [.loc 1]) .or (.loc 3),
 .augA (.loc 0) 29 .xor (.sub (.sub (.attr (.attr (.loc 0) 23) 19) (.loc 1)) (.loc 2))]
noncomputable def TY:List CS:=
 [.ret (.bin .and (.sub (.attr (.loc 0) 27) (.loc 1)) (.sub (.attr (.loc 0) 26) (.loc 2)))]
noncomputable def vV:List CS:=
 [.ret (.call 26 [.bin .and (.sub (.attr (.loc 0) 27) (.loc 1)) (.sub (.attr (.loc 0) 26) (.glo 7))])]
noncomputable def zR:List CS:=
 [.setA (.loc 0) 29 (.call 29 [.loc 0])]
noncomputable def DS:List CS:=
 [.asg (.n 2) (.attr (.loc 0) 24),
 .ifs (.or [.not (.attr (.loc 2) 9),.cmp .lt (.loc 1) (.c (.int 0)),.cmp .ge (.loc 1) (.attr (.loc 2) 7)]) [.ret (.c (.bool false))] [],
 .asg (.n 3) (.c (.int 2)),
 .asg (.n 4) (.neg (.attr (.loc 2) 5)),
 .ifs (.cmp .eq (.attr (.loc 0) 22) (.glo 0)) [.asg (.n 3) (.bin .sub (.attr (.loc 2) 6) (.c (.int 3))),
 .asg (.n 4) (.attr (.loc 2) 5)] [],
 .ifs (.cmp .ne (.bin .fdiv (.loc 1) (.attr (.loc 2) 5)) (.loc 3)) [.ret (.c (.bool false))] [],
 .ifs (.or [.cmp .ne (.sub (.attr (.loc 0) 25) (.loc 1)) (.glo 8),.cmp .ne (.sub (.attr (.loc 0) 25) (.bin .add (.loc 1) (.loc 4))) (.glo 8)]) [.ret (.c (.bool false))] [],
 .ret (.cmp .eq (.sub (.attr (.loc 0) 25) (.bin .sub (.loc 1) (.loc 4))) (.call 6 [.bin .sub (.c (.int 1)) (.attr (.loc 0) 22),.glo 2]))]
noncomputable def vY:List CS:=
 [.ret (.cmp .ne (.bin .and (.sub (.sub (.attr (.attr (.loc 0) 24) 16) (.bin .sub (.c (.int 1)) (.attr (.loc 0) 22))) (.loc 1)) (.call 32 [.loc 0,.attr (.loc 0) 22,.glo 2])) (.c (.int 0)))]
noncomputable def wB:List CS:=
 [.for (.n 1) (.tup [.glo 0,.glo 1]) [.asg (.n 2) (.call 32 [.loc 0,.loc 1,.glo 7]),
 .ifs (.cmp .eq (.loc 2) (.c (.int 0))) [.raise 3 [.c (.str [97,32,115,105,100,101,32,119,105,116,104,111,117,116,32,97,32,107,105,110,103]),.neg (.c (.int 1))]] [],
 .ifs (.call 24 [.loc 2]) [.raise 3 [.c (.str [97,32,115,101,99,111,110,100,32,107,105,110,103]),.call 25 [.loc 2]]] []]]
noncomputable def wA:List CS:=
 [.asg (.n 1) (.attr (.loc 0) 24),
 .asg (.n 2) (.bin .and (.sub (.attr (.loc 0) 26) (.glo 2)) (.bin .or (.sub (.attr (.loc 1) 12) (.c (.int 0))) (.sub (.attr (.loc 1) 12) (.bin .sub (.attr (.loc 1) 6) (.c (.int 1)))))),
 .ifs (.cmp .ne (.loc 2) (.c (.int 0))) [.raise 3 [.c (.str [97,32,112,97,119,110,32,111,110,32,97,110,32,111,117,116,101,114,32,114,97,110,107]),.call 26 [.loc 2]]] []]
noncomputable def uI:List CS:=
 [.ifs (.not (.cmp2 .le .lt (.c (.int 0)) (.attr (.loc 0) 21) (.c (.int 16)))) [.raise 3 [.c (.str [110,111,32,115,117,99,104,32,114,105,103,104,116,115]),.neg (.c (.int 1))]] [],
 .for (.n 1) (.bi .range [.c (.int 4)]) [.ifs (.cmp .eq (.bin .and (.attr (.loc 0) 21) (.bin .shl (.c (.int 1)) (.loc 1))) (.c (.int 0))) [.cont] [],
 .asg (.n 2) (.sub (.attr (.attr (.loc 0) 24) 17) (.loc 1)),
 .ifs (.cmp .is_ (.loc 2) (.c .none)) [.raise 3 [.c (.str [97,32,114,105,103,104,116,32,119,105,116,104,111,117,116,32,97,32,119,105,110,103]),.neg (.c (.int 1))]] [],
 .ifs (.cmp .ne (.sub (.attr (.loc 0) 25) (.sub (.loc 2) (.c (.int 0)))) (.call 6 [.bin .shr (.loc 1) (.c (.int 1)),.glo 7])) [.raise 3 [.c (.str [97,32,114,105,103,104,116,32,119,105,116,104,111,117,116,32,105,116,115,32,107,105,110,103]),.sub (.loc 2) (.c (.int 0))]] [],
 .ifs (.cmp .ne (.sub (.attr (.loc 0) 25) (.sub (.loc 2) (.c (.int 2)))) (.call 6 [.bin .shr (.loc 1) (.c (.int 1)),.glo 5])) [.raise 3 [.c (.str [97,32,114,105,103,104,116,32,119,105,116,104,111,117,116,32,105,116,115,32,114,111,111,107]),.sub (.loc 2) (.c (.int 2))]] []]]
noncomputable def nC:List CS:=
 [.ret (.bin .or (.sub (.attr (.loc 0) 26) (.glo 5)) (.sub (.attr (.loc 0) 26) (.glo 6)))]
noncomputable def nD:List CS:=
 [.ret (.bin .or (.sub (.attr (.loc 0) 26) (.glo 4)) (.sub (.attr (.loc 0) 26) (.glo 6)))]
noncomputable def qE:List CS:=
 [.ret (.bin .and (.bin .and (.sub (.sub (.attr (.attr (.loc 0) 24) 16) (.bin .sub (.c (.int 1)) (.loc 2))) (.loc 1)) (.sub (.attr (.loc 0) 26) (.glo 2))) (.sub (.attr (.loc 0) 27) (.loc 2)))]
noncomputable def qC:List CS:=
 [.asg (.n 3) (.attr (.loc 0) 24),
 .asg (.n 4) (.bin .and (.sub (.attr (.loc 3) 15) (.loc 1)) (.sub (.attr (.loc 0) 26) (.glo 3))),
 .aug 4 .or (.bin .and (.sub (.attr (.loc 3) 14) (.loc 1)) (.sub (.attr (.loc 0) 26) (.glo 7))),
 .ret (.bin .or (.call 42 [.loc 0,.loc 1,.loc 2]) (.bin .and (.loc 4) (.sub (.attr (.loc 0) 27) (.loc 2))))]
noncomputable def vW:List CS:=
 [.ifs (.call 43 [.loc 0,.loc 1,.loc 2]) [.ret (.c (.bool true))] [],
 .asg (.n 4) (.attr (.loc 0) 24),
 .asg (.n 5) (.sub (.attr (.loc 0) 27) (.loc 2)),
 .asg (.n 6) (.bin .and (.call 40 [.loc 0]) (.loc 5)),
 .ifs (.and [.loc 6,.bin .and (.call 22 [.loc 4,.loc 1,.loc 3]) (.loc 6)]) [.ret (.c (.bool true))] [],
 .asg (.n 7) (.bin .and (.call 41 [.loc 0]) (.loc 5)),
 .ret (.and [.cmp .ne (.loc 7) (.c (.int 0)),.cmp .ne (.bin .and (.call 23 [.loc 4,.loc 1,.loc 3]) (.loc 7)) (.c (.int 0))])]
noncomputable def vX:List CS:=
 [.asg (.n 2) (.bin .or (.sub (.attr (.loc 0) 27) (.glo 0)) (.sub (.attr (.loc 0) 27) (.glo 1))),
 .ret (.call 44 [.loc 0,.call 33 [.loc 0,.loc 1],.bin .sub (.c (.int 1)) (.loc 1),.loc 2])]
noncomputable def vM:List CS:=
 [.ifs (.or [.cmp .lt (.loc 1) (.c (.int 0)),.cmp .ge (.loc 1) (.bin .mul (.loc 0) (.c (.int 8)))]) [.raise 1 [.loc 1]] [],
 .ret (.bin .add (.sub (.glo 13) (.bin .fmod (.loc 1) (.loc 0))) (.sub (.glo 14) (.bin .fdiv (.loc 1) (.loc 0))))]
noncomputable def vO:List CS:=
 [.ifs (.cmp .ne (.bi .len [.loc 2]) (.c (.int 2))) [.ret (.neg (.c (.int 1)))] [],
 .asg (.n 3) (.meth .find (.glo 13) [.sub (.loc 2) (.c (.int 0))]),
 .asg (.n 4) (.meth .find (.glo 14) [.sub (.loc 2) (.c (.int 1))]),
 .ifs (.or [.cmp .lt (.loc 3) (.c (.int 0)),.cmp .ge (.loc 3) (.loc 0),.cmp .lt (.loc 4) (.c (.int 0)),.cmp .ge (.loc 4) (.loc 1)]) [.ret (.neg (.c (.int 1)))] [],
 .ret (.bin .add (.bin .mul (.loc 4) (.loc 0)) (.loc 3))]
noncomputable def uH:List CS:=
 [.ifs (.or [.cmp .eq (.loc 0) (.c (.str [])),.and [.cmp .eq (.sub (.loc 0) (.c (.int 0))) (.c (.str [48])),.cmp .gt (.bi .len [.loc 0]) (.c (.int 1))]]) [.ret (.neg (.c (.int 1)))] [],
 .asg (.n 1) (.c (.int 0)),
 .for (.n 2) (.loc 0) [.asg (.n 3) (.meth .find (.glo 15) [.loc 2]),
 .ifs (.cmp .lt (.loc 3) (.c (.int 0))) [.ret (.neg (.c (.int 1)))] [],
 .asg (.n 1) (.bin .add (.bin .mul (.loc 1) (.c (.int 10))) (.loc 3))],
 .ret (.loc 1)]
noncomputable def GP:List CS:=
 [.asg (.n 2) (.lst []),
 .asg (.n 3) (.c (.bool false)),
 .for (.n 4) (.loc 0) [.asg (.n 5) (.meth .find (.glo 15) [.loc 4]),
 .ifs (.cmp .ge (.loc 5) (.c (.int 0))) [.ifs (.or [.cmp .eq (.loc 5) (.c (.int 0)),.loc 3]) [.ret (.c .none)] [],
 .ex (.meth .extend (.loc 2) [.bin .mul (.lst [.glo 8]) (.loc 5)]),
 .asg (.n 3) (.c (.bool true))] [.asg (.n 6) (.call 11 [.loc 4]),
 .ifs (.cmp .le (.loc 6) (.glo 8)) [.ret (.c .none)] [],
 .ex (.meth .append (.loc 2) [.loc 6]),
 .asg (.n 3) (.c (.bool false))]],
 .ifs (.cmp .ne (.bi .len [.loc 2]) (.loc 1)) [.ret (.c .none)] [],
 .ret (.loc 2)]
noncomputable def zT:List CS:=
 [.asg (.n 3) (.meth .split (.loc 0) [.c (.str [47])]),
 .ifs (.cmp .ne (.bi .len [.loc 3]) (.loc 2)) [.raise 4 [.c (.int 0),.fstr [.fmt (.bi .len [.loc 3]),.c (.str [32,114,97,110,107,115,44,32,110,111,116,32]),.fmt (.loc 2)]]] [],
 .asg (.n 4) (.lst []),
 .for (.n 5) (.bi .range [.loc 2]) [.asg (.n 6) (.call 49 [.sub (.loc 3) (.bin .sub (.bin .sub (.loc 2) (.c (.int 1))) (.loc 5)),.loc 1]),
 .ifs (.cmp .is_ (.loc 6) (.c .none)) [.raise 4 [.c (.int 0),.fstr [.c (.str [114,97,110,107,32]),.fmt (.bin .add (.loc 5) (.c (.int 1))),.c (.str [32,100,111,101,115,32,110,111,116,32,116,101,108,108,32]),.fmt (.loc 1),.c (.str [32,115,113,117,97,114,101,115])]]] [],
 .ex (.meth .extend (.loc 4) [.loc 6])],
 .ret (.loc 4)]
noncomputable def DM:List CS:=
 [.ifs (.cmp .eq (.loc 0) (.c (.str [119]))) [.ret (.glo 0)] [],
 .ifs (.cmp .eq (.loc 0) (.c (.str [98]))) [.ret (.glo 1)] [],
 .raise 4 [.c (.int 1),.c (.str [116,104,101,32,115,105,100,101,32,116,111,32,109,111,118,101,32,105,115,32,119,32,111,114,32,98])]]
noncomputable def vP:List CS:=
 [.ifs (.cmp .eq (.loc 0) (.c (.str [45]))) [.ret (.c (.int 0))] [],
 .asg (.n 1) (.c (.int 0)),
 .asg (.n 2) (.neg (.c (.int 1))),
 .for (.n 3) (.loc 0) [.asg (.n 4) (.meth .find (.glo 16) [.loc 3]),
 .ifs (.cmp .le (.loc 4) (.loc 2)) [.raise 4 [.c (.int 2),.c (.str [99,97,115,116,108,105,110,103,32,114,105,103,104,116,115,32,97,114,101,32,45,32,111,114,32,108,101,116,116,101,114,115,32,111,102,32,75,81,107,113,32,105,110,32,116,104,97,116,32,111,114,100,101,114])]] [],
 .asg (.n 2) (.loc 4),
 .aug 1 .or (.bin .shl (.c (.int 1)) (.loc 4))],
 .ifs (.cmp .eq (.loc 1) (.c (.int 0))) [.raise 4 [.c (.int 2),.c (.str [99,97,115,116,108,105,110,103,32,114,105,103,104,116,115,32,97,114,101,32,109,105,115,115,105,110,103])]] [],
 .ret (.loc 1)]
noncomputable def MH:List CS:=
 [.ifs (.cmp .eq (.loc 0) (.c (.str [45]))) [.ret (.neg (.c (.int 1)))] [],
 .asg (.n 3) (.call 47 [.loc 1,.loc 2,.loc 0]),
 .ifs (.cmp .lt (.loc 3) (.c (.int 0))) [.raise 4 [.c (.int 3),.c (.str [110,111,32,115,113,117,97,114,101,32,111,102,32,116,104,105,115,32,98,111,97,114,100])]] [],
 .ret (.loc 3)]
noncomputable def zS:List CS:=
 [.asg (.n 3) (.call 48 [.loc 0]),
 .ifs (.cmp .lt (.loc 3) (.loc 2)) [.raise 4 [.loc 1,.fstr [.c (.str [97,32,119,104,111,108,101,32,110,117,109,98,101,114,32,102,114,111,109,32]),.fmt (.loc 2),.c (.str [32,111,110,44,32,105,110,32,112,108,97,105,110,32,100,105,103,105,116,115])]]] [],
 .ret (.loc 3)]
noncomputable def vQ:List CS:=
 [.asg (.n 2) (.call 50 [.sub (.loc 0) (.c (.int 0)),.attr (.loc 1) 5,.attr (.loc 1) 6]),
 .asg (.n 3) (.call 51 [.sub (.loc 0) (.c (.int 1))]),
 .asg (.n 4) (.call 52 [.sub (.loc 0) (.c (.int 2))]),
 .ret (.tup [.loc 2,.loc 3,.loc 4,.call 53 [.sub (.loc 0) (.c (.int 3)),.attr (.loc 1) 5,.attr (.loc 1) 6]])]
noncomputable def uJ:List CS:=
 [.try [.ex (.call 37 [.loc 0]),
 .ex (.call 38 [.loc 0])] 3 (some 1) [.raise 4 [.c (.int 0),.attr (.loc 1) 0]]]
noncomputable def vZ:List CS:=
 [.try [.ex (.call 39 [.loc 0])] 3 (some 1) [.raise 4 [.c (.int 2),.attr (.loc 1) 0]]]
noncomputable def qF:List CS:=
 [.asg (.t [5,6,7,8]) (.loc 0),
 .asg (.n 9) (.new 8 [.loc 3,.loc 4]),
 .for (.n 10) (.bi .range [.attr (.loc 3) 7]) [.ifs (.cmp .ne (.sub (.loc 5) (.loc 10)) (.glo 8)) [.ex (.call 31 [.loc 9,.sub (.loc 5) (.loc 10),.loc 10])] []],
 .setA (.loc 9) 22 (.loc 6),
 .setA (.loc 9) 21 (.loc 7),
 .setA (.loc 9) 28 (.loc 1),
 .setA (.loc 9) 8 (.loc 2),
 .ex (.call 56 [.loc 9]),
 .ex (.call 57 [.loc 9]),
 .ifs (.cmp .ge (.loc 8) (.c (.int 0))) [.ifs (.not (.call 35 [.loc 9,.loc 8])) [.raise 4 [.c (.int 3),.c (.str [110,111,32,112,97,119,110,32,104,97,115,32,112,97,115,115,101,100,32,111,118,101,114,32,116,104,105,115,32,115,113,117,97,114,101])]] [],
 .ifs (.call 36 [.loc 9,.loc 8]) [.setA (.loc 9) 20 (.loc 8)] []] [],
 .ex (.call 34 [.loc 9]),
 .ifs (.call 45 [.loc 9,.bin .sub (.c (.int 1)) (.loc 6)]) [.raise 4 [.c (.int 1),.c (.str [116,104,101,32,115,105,100,101,32,116,111,32,109,111,118,101,32,99,111,117,108,100,32,116,97,107,101,32,116,104,101,32,107,105,110,103])]] [],
 .ret (.loc 9)]
noncomputable def GQ:List CS:=
 [.asg (.n 3) (.meth .split (.loc 0) [.c (.str [32])]),
 .ifs (.cmp .ne (.bi .len [.loc 3]) (.c (.int 6))) [.raise 4 [.neg (.c (.int 1)),.fstr [.fmt (.bi .len [.loc 3]),.c (.str [32,112,97,114,116,115,44,32,110,111,116,32,115,105,120])]]] [],
 .asg (.n 4) (.call 55 [.loc 3,.loc 1]),
 .asg (.n 5) (.call 54 [.sub (.loc 3) (.c (.int 4)),.c (.int 4),.c (.int 0)]),
 .asg (.n 6) (.call 54 [.sub (.loc 3) (.c (.int 5)),.c (.int 5),.c (.int 1)]),
 .ret (.call 58 [.loc 4,.loc 5,.loc 6,.loc 1,.loc 2])]
noncomputable def DH:List CS:=
 [.asg (.n 1) (.c (.str [])),
 .asg (.n 2) (.c (.int 0)),
 .for (.n 3) (.loc 0) [.ifs (.cmp .eq (.loc 3) (.glo 8)) [.aug 2 .add (.c (.int 1))] [.ifs (.cmp .gt (.loc 2) (.c (.int 0))) [.aug 1 .add (.bi .str [.loc 2])] [],
 .asg (.n 2) (.c (.int 0)),
 .aug 1 .add (.call 10 [.loc 3])]],
 .ifs (.cmp .gt (.loc 2) (.c (.int 0))) [.aug 1 .add (.bi .str [.loc 2])] [],
 .ret (.loc 1)]
noncomputable def vK:List CS:=
 [.asg (.n 2) (.lst []),
 .asg (.n 3) (.bi .len [.loc 0]),
 .whl (.cmp .gt (.loc 3) (.c (.int 0))) [.aug 3 .sub (.loc 1),
 .ex (.meth .append (.loc 2) [.call 60 [.slice (.loc 0) (.loc 3) (.bin .add (.loc 3) (.loc 1))]])],
 .ret (.meth .join (.c (.str [47])) [.loc 2])]
noncomputable def uE:List CS:=
 [.asg (.n 1) (.c (.str [])),
 .for (.n 2) (.bi .range [.c (.int 4)]) [.ifs (.bin .and (.bin .shr (.loc 0) (.loc 2)) (.c (.int 1))) [.aug 1 .add (.sub (.glo 16) (.loc 2))] []],
 .ifs (.cmp .eq (.loc 1) (.c (.str []))) [.ret (.c (.str [45]))] [],
 .ret (.loc 1)]
noncomputable def uF:List CS:=
 [.asg (.n 1) (.c (.str [119])),
 .ifs (.cmp .eq (.attr (.loc 0) 22) (.glo 1)) [.asg (.n 1) (.c (.str [98]))] [],
 .asg (.n 2) (.c (.str [45])),
 .ifs (.cmp .ge (.attr (.loc 0) 20) (.c (.int 0))) [.asg (.n 2) (.call 46 [.attr (.attr (.loc 0) 24) 5,.attr (.loc 0) 20])] [],
 .ret (.bin .add (.bin .add (.bin .add (.bin .add (.bin .add (.bin .add (.call 61 [.attr (.loc 0) 25,.attr (.attr (.loc 0) 24) 5]) (.c (.str [32]))) (.loc 1)) (.c (.str [32]))) (.call 62 [.attr (.loc 0) 21])) (.c (.str [32]))) (.loc 2))]
noncomputable def DI:List CS:=
 [.ret (.bin .add (.bin .add (.bin .add (.bin .add (.call 63 [.loc 0]) (.c (.str [32]))) (.bi .str [.attr (.loc 0) 28])) (.c (.str [32]))) (.bi .str [.attr (.loc 0) 8]))]
noncomputable def DK:List CS:=
 [.asg (.n 1) (.bin .fdiv (.attr (.loc 0) 5) (.c (.int 2))),
 .asg (.n 2) (.c (.str [])),
 .for (.n 3) (.bi .range [.attr (.loc 0) 5]) [.ifs (.cmp .eq (.loc 3) (.loc 1)) [.aug 2 .add (.c (.str [75]))] [.ifs (.or [.cmp .eq (.loc 3) (.c (.int 0)),.cmp .eq (.loc 3) (.bin .sub (.attr (.loc 0) 5) (.c (.int 1)))]) [.aug 2 .add (.c (.str [82]))] [.aug 2 .add (.c (.str [46]))]]],
 .ret (.loc 2)]
noncomputable def vL:List CS:=
 [.ifs (.and [.cmp .eq (.attr (.loc 0) 5) (.c (.int 8)),.cmp .eq (.attr (.loc 0) 6) (.c (.int 8))]) [.ret (.glo 17)] [],
 .asg (.n 1) (.comp (.ife (.cmp .ne (.loc 4) (.c (.str [46]))) (.call 11 [.loc 4]) (.glo 8)) (.n 4) (.call 65 [.loc 0]) []),
 .asg (.n 2) (.bin .add (.loc 1) (.bin .mul (.lst [.glo 8]) (.bin .sub (.attr (.loc 0) 7) (.attr (.loc 0) 5)))),
 .for (.n 3) (.bi .range [.attr (.loc 0) 5]) [.ifs (.cmp .ne (.sub (.loc 1) (.loc 3)) (.glo 8)) [.setI (.loc 2) (.bin .add (.bin .sub (.attr (.loc 0) 7) (.attr (.loc 0) 5)) (.loc 3)) (.bin .add (.sub (.loc 1) (.loc 3)) (.c (.int 8)))] [],
 .ifs (.cmp .ge (.attr (.loc 0) 6) (.c (.int 4))) [.setI (.loc 2) (.bin .add (.attr (.loc 0) 5) (.loc 3)) (.glo 2),
 .setI (.loc 2) (.bin .add (.bin .sub (.attr (.loc 0) 7) (.bin .mul (.c (.int 2)) (.attr (.loc 0) 5))) (.loc 3)) (.call 6 [.glo 1,.glo 2])] []],
 .ret (.call 61 [.loc 2,.attr (.loc 0) 5])]
noncomputable def DL:List CS:=
 [.asg (.n 1) (.c (.int 0)),
 .for (.n 2) (.bi .range [.c (.int 4)]) [.ifs (.cmp .isn (.sub (.attr (.loc 0) 17) (.loc 2)) (.c .none)) [.aug 1 .or (.bin .shl (.c (.int 1)) (.loc 2))] []],
 .ret (.bin .add (.bin .add (.bin .add (.call 66 [.loc 0]) (.c (.str [32,119,32]))) (.call 62 [.loc 1])) (.c (.str [32,45,32,48,32,49])))]
noncomputable def lG:List CS:=
 [.setA (.loc 0) 31 (.loc 1),
 .setA (.loc 0) 32 (.loc 2),
 .setA (.loc 0) 33 (.loc 3),
 .setA (.loc 0) 34 (.loc 4)]
noncomputable def TX:List CS:=
 [.for (.n 2) (.loc 0) [.ifs (.cmp .eq (.sub (.loc 2) (.c (.int 0))) (.loc 1)) [.ret (.loc 2)] []],
 .ret (.c .none)]
noncomputable def qD:List CS:=
 [.asg (.n 3) (.call 69 [.loc 0,.c (.str [83,101,116,85,112])]),
 .asg (.n 4) (.call 69 [.loc 0,.c (.str [70,69,78])]),
 .ifs (.and [.cmp .isn (.loc 3) (.c .none),.cmp .ne (.sub (.loc 3) (.c (.int 1))) (.ife (.cmp .is_ (.loc 4) (.c .none)) (.c (.str [48])) (.c (.str [49])))]) [.raise 5 [.sub (.loc 3) (.c (.int 2)),.c (.str [83,101,116,85,112,32,97,110,100,32,70,69,78,32,100,105,115,97,103,114,101,101])]] [],
 .ifs (.cmp .is_ (.loc 4) (.c .none)) [.ret (.call 59 [.call 67 [.loc 1],.loc 1,.loc 2])] [],
 .try [.ret (.call 59 [.sub (.loc 4) (.c (.int 1)),.loc 1,.loc 2])] 0 none [.raise 5 [.sub (.loc 4) (.c (.int 2)),.c (.str [110,111,32,112,111,115,105,116,105,111,110])]]]
noncomputable def rO:List CS:=
 [.setA (.loc 0) 35 (.loc 1),
 .setA (.loc 0) 36 (.loc 2),
 .setA (.loc 0) 37 (.c (.str [])),
 .setA (.loc 0) 38 (.neg (.c (.int 1))),
 .setA (.loc 0) 39 (.lst []),
 .setA (.loc 0) 40 (.lst []),
 .setA (.loc 0) 41 (.lst []),
 .setA (.loc 0) 42 (.lst [])]
noncomputable def GS:List CS:=
 [.ret (.new 10 [.glo 9,.c .none])]
noncomputable def zW:List CS:=
 [.for (.n 1) (.bi .range [.bi .len [.loc 0]]) [.for (.n 2) (.bi .range [.loc 1]) [.ifs (.cmp .eq (.sub (.sub (.loc 0) (.loc 2)) (.c (.int 0))) (.sub (.sub (.loc 0) (.loc 1)) (.c (.int 0)))) [.raise 5 [.neg (.c (.int 1)),.c (.str [97,32,116,97,103,32,116,111,108,100,32,116,119,105,99,101])]] []]]]
noncomputable def GO:List CS:=
 [.for (.n 3) (.loc 0) [.ifs (.cmp .eq (.sub (.loc 3) (.c (.int 0))) (.loc 1)) [.ret (.sub (.loc 3) (.c (.int 1)))] []],
 .ret (.loc 2)]
noncomputable def DR:List CS:=
 [.ex (.call 73 [.attr (.loc 0) 31]),
 .asg (.n 2) (.comp (.tup [.loc 5,.call 74 [.attr (.loc 0) 31,.loc 5,.loc 6]]) (.t [5,6]) (.glo 18) []),
 .asg (.n 3) (.comp (.loc 5) (.t [5,6]) (.glo 18) []),
 .asg (.n 4) (.comp (.tup [.loc 5,.loc 6]) (.t [5,6]) (.attr (.loc 0) 31) [.and [.cmp .nin (.loc 5) (.loc 3),.cmp .nin (.loc 5) (.glo 19)]]),
 .ifs (.cmp .ne (.attr (.loc 0) 33) (.call 67 [.loc 1])) [.ex (.meth .append (.loc 4) [.tup [.c (.str [70,69,78]),.attr (.loc 0) 33]]),
 .ex (.meth .append (.loc 4) [.tup [.c (.str [83,101,116,85,112]),.c (.str [49])]])] [],
 .ex (.meth .append (.loc 2) [.tup [.c (.str [82,101,115,117,108,116]),.attr (.loc 0) 34]]),
 .ret (.bin .add (.loc 2) (.bi .sorted [.loc 4]))]
noncomputable def DP:List CS:=
 [.ifs (.cmp .eq (.loc 0) (.c (.int 8))) [.ret (.c (.str [114,110,98,113,107,98,110,114,47,112,112,112,112,112,112,112,112,47,56,47,56,47,56,47,56,47,80,80,80,80,80,80,80,80,47,82,78,66,81,75,66,78,82,32,119,32,75,81,107,113,32,45,32,48,32,49]))] [],
 .asg (.n 3) (.bin .add (.bin .add (.lst [.c (.str [82])]) (.bin .mul (.lst [.c (.str [46])]) (.bin .sub (.loc 0) (.c (.int 2))))) (.lst [.c (.str [82])])),
 .setI (.loc 3) (.bin .fdiv (.loc 0) (.c (.int 2))) (.c (.str [75])),
 .asg (.n 4) (.meth .join (.c (.str [])) [.loc 3]),
 .asg (.n 5) (.lst [.meth .lower (.loc 4) [],.bin .mul (.c (.str [46])) (.loc 0),.loc 4]),
 .ifs (.cmp .eq (.loc 1) (.c (.int 5))) [.asg (.n 5) (.lst [.meth .lower (.loc 4) [],.bin .mul (.c (.str [112])) (.loc 0),.bin .mul (.c (.str [46])) (.loc 0),.bin .mul (.c (.str [80])) (.loc 0),.loc 4])] [],
 .asg (.n 6) (.meth .join (.c (.str [47])) [.loc 5]),
 .for (.n 7) (.bi .range [.loc 0,.c (.int 0),.neg (.c (.int 1))]) [.asg (.n 6) (.meth .replace (.loc 6) [.bin .mul (.c (.str [46])) (.loc 7),.bi .str [.loc 7]])],
 .ret (.bin .add (.bin .add (.bin .add (.loc 6) (.c (.str [32,119,32]))) (.loc 2)) (.c (.str [32,45,32,48,32,49])))]
noncomputable def GT:List CS:=
 [.asg (.n 2) (.bin .add (.bin .add (.lst [.bin .add (.c (.str [107])) (.bi .str [.bin .sub (.loc 0) (.c (.int 1))])]) (.bin .mul (.lst [.bi .str [.loc 0]]) (.bin .sub (.loc 1) (.c (.int 2))))) (.lst [.bin .add (.bi .str [.bin .sub (.loc 0) (.c (.int 1))]) (.c (.str [75]))])),
 .ret (.bin .add (.meth .join (.c (.str [47])) [.loc 2]) (.c (.str [32,98,32,45,32,45,32,53,32,54])))]
noncomputable def nE:List CS:=
 [.asg (.n 4) .dict0,
 .for (.t [5,6]) (.loc 0) [.ifs (.cmp .in_ (.loc 5) (.loc 4)) [.ret (.c .none)] [],
 .setI (.loc 4) (.loc 5) (.loc 6)],
 .asg (.n 7) (.lst []),
 .for (.t [5,8]) (.glo 24) [.ex (.meth .append (.loc 7) [.tup [.loc 5,.meth .get (.loc 4) [.loc 5,.loc 8]]])],
 .ex (.meth .append (.loc 7) [.tup [.c (.str [82,101,115,117,108,116]),.loc 3]]),
 .setI (.loc 4) (.c (.str [70,69,78])) (.loc 1),
 .setI (.loc 4) (.c (.str [83,101,116,85,112])) (.c (.str [49])),
 .for (.n 5) (.bi .sorted [.loc 4]) [.ifs (.and [.cmp .eq (.comp (.loc 9) (.t [9,10]) (.loc 7) [.cmp .eq (.loc 9) (.loc 5)]) (.lst []),.or [.cmp .ne (.loc 1) (.loc 2),.cmp .nin (.loc 5) (.tup [.c (.str [70,69,78]),.c (.str [83,101,116,85,112])])]]) [.ex (.meth .append (.loc 7) [.tup [.loc 5,.sub (.loc 4) (.loc 5)]])] []],
 .ret (.loc 7)]
noncomputable def lF:List CS:=
 [.try [.ret (.call 64 [.call 70 [.loc 0,.loc 1,.loc 2]])] 5 (some 3) [.ret (.attr (.loc 3) 4)]]
noncomputable def DQ:List CS:=
 [.asg (.n 1) (.comp (.ife (.cmp .lt (.loc 25) (.bi .len [.loc 0])) (.sub (.loc 0) (.loc 25)) (.c (.int 0))) (.n 25) (.bi .range [.c (.int 6)]) []),
 .asg (.n 2) (.bin .fmod (.sub (.loc 1) (.c (.int 0))) (.c (.int 4))),
 .asg (.t [3,4,5,6]) (.sub (.glo 20) (.loc 2)),
 .asg (.n 7) (.call 20 [.loc 3,.loc 4,.loc 5,.c (.bool true)]),
 .asg (.n 8) (.new 7 [.bin .mul (.lst [.bin .mul (.lst [.c (.int 0)]) (.attr (.loc 7) 7)]) (.c (.int 15)),.bin .mul (.lst [.c (.int 0)]) (.loc 3),.bin .mul (.lst [.c (.int 0)]) (.c (.int 16)),.c (.int 0)]),
 .asg (.n 9) (.call 76 [.loc 3,.loc 4,.loc 6]),
 .asg (.n 10) (.call 77 [.loc 3,.loc 4]),
 .asg (.n 11) (.bin .add (.lst [.tup [.loc 9,.loc 9],.tup [.loc 10,.loc 10]]) (.comp (.tup [.loc 25,.ife (.cmp .eq (.loc 2) (.c (.int 0))) (.loc 26) (.c (.str []))]) (.t [25,26]) (.glo 25) [])),
 .asg (.n 12) (.comp (.loc 26) (.t [25,26]) (.loc 11) [.cmp .ne (.loc 26) (.c (.str []))]),
 .asg (.n 13) (.lst []),
 .for (.n 14) (.slice (.loc 0) (.c (.int 6)) (.c (.int 14))) [.ex (.meth .append (.loc 13) [.tup [.sub (.glo 21) (.bin .fmod (.loc 14) (.c (.int 13))),.sub (.glo 22) (.bin .fmod (.bin .fdiv (.loc 14) (.c (.int 13))) (.c (.int 4)))]])],
 .asg (.n 15) (.sub (.loc 12) (.bin .fmod (.sub (.loc 1) (.c (.int 4))) (.bi .len [.loc 12]))),
 .asg (.n 16) (.sub (.glo 23) (.bin .fmod (.sub (.loc 1) (.c (.int 5))) (.c (.int 4)))),
 .asg (.n 17) (.call 78 [.loc 13,.loc 15,.loc 9,.loc 16]),
 .try [.asg (.n 18) (.call 75 [.new 9 [.loc 13,.call 72 [],.loc 15,.loc 16],.loc 7])] 5 (some 19) [.asg (.n 18) (.c .none),
 .ifs (.cmp .ne (.attr (.loc 19) 4) (.neg (.c (.int 1)))) [.ret (.c (.bool false))] []],
 .ifs (.cmp .ne (.loc 18) (.loc 17)) [.ret (.c (.bool false))] [],
 .ifs (.and [.cmp .isn (.loc 17) (.c .none),.cmp .ne (.call 79 [.comp (.tup [.loc 25,.loc 26,.c (.int 3)]) (.t [25,26]) (.loc 17) [],.loc 7,.loc 8]) (.loc 15)]) [.ret (.c (.bool false))] [],
 .asg (.n 20) (.bin .fmod (.sub (.loc 1) (.c (.int 1))) (.c (.int 11))),
 .asg (.n 21) (.sub (.lst [.c .none,.c (.str [49]),.c (.str [48]),.c (.str [50]),.c (.str [])]) (.bin .fmod (.sub (.loc 1) (.c (.int 2))) (.c (.int 5)))),
 .asg (.n 22) (.lst [.tup [.c (.str [69,118,101,110,116]),.c (.str [70,69,78]),.c (.int 4)]]),
 .asg (.n 23) (.loc 9),
 .ifs (.cmp .lt (.loc 20) (.c (.int 10))) [.ex (.meth .append (.loc 22) [.tup [.c (.str [70,69,78]),.sub (.sub (.loc 11) (.loc 20)) (.c (.int 0)),.bin .fmod (.sub (.loc 1) (.c (.int 3))) (.c (.int 1000))]]),
 .asg (.n 23) (.ife (.cmp .ne (.sub (.sub (.loc 11) (.loc 20)) (.c (.int 1))) (.c (.str []))) (.sub (.sub (.loc 11) (.loc 20)) (.c (.int 1))) (.bin .fmod (.sub (.loc 1) (.c (.int 3))) (.c (.int 1000))))] [],
 .ifs (.cmp .isn (.loc 21) (.c .none)) [.asg (.n 24) (.bin .add (.c (.int 1000)) (.bin .fmod (.bin .fdiv (.sub (.loc 1) (.c (.int 3))) (.c (.int 1000))) (.c (.int 1000)))),
 .ex (.meth .insert (.loc 22) [.bin .add (.bin .fmod (.sub (.loc 1) (.c (.int 3))) (.c (.int 2))) (.c (.int 1)),.tup [.c (.str [83,101,116,85,112]),.loc 21,.loc 24]]),
 .ifs (.cmp .ne (.loc 21) (.ife (.cmp .lt (.loc 20) (.c (.int 10))) (.c (.str [49])) (.c (.str [48])))) [.asg (.n 23) (.loc 24)] []] [],
 .ret (.cmp .eq (.call 79 [.loc 22,.loc 7,.loc 8]) (.loc 23))]
noncomputable def XJ:V:=(.int 0)
noncomputable def XN:V:=(.int 1)
noncomputable def aCN:V:=(.int 1)
noncomputable def SH:V:=(.int 2)
noncomputable def SK:V:=(.int 3)
noncomputable def aCM:V:=(.int 4)
noncomputable def XK:V:=(.int 5)
noncomputable def aCO:V:=(.int 6)
noncomputable def XM:V:=(.int 0)
noncomputable def LT:V:=(.int 0)
noncomputable def LU:V:=(.str [46,80,78,66,82,81,75,46,46,112,110,98,114,113,107])
noncomputable def zJ:V:=(.tup [.int 0,.int 1,.int 0,.int (-1),.int 1,.int 1,.int (-1),.int (-1)])
noncomputable def zI:V:=(.tup [.int 1,.int 0,.int (-1),.int 0,.int 1,.int (-1),.int (-1),.int 1])
noncomputable def tR:V:=(.str [97,98,99,100,101,102,103,104])
noncomputable def vD:V:=(.str [49,50,51,52,53,54,55,56])
noncomputable def SJ:V:=(.str [48,49,50,51,52,53,54,55,56,57])
noncomputable def rH:V:=(.str [75,81,107,113])
noncomputable def zK:V:=(.str [114,110,98,113,107,98,110,114,47,112,112,112,112,112,112,112,112,47,56,47,56,47,56,47,56,47,80,80,80,80,80,80,80,80,47,82,78,66,81,75,66,78,82])
noncomputable def SG:V:=(.tup [.tup [.str [69,118,101,110,116],.str [63]],.tup [.str [83,105,116,101],.str [63]],.tup [.str [68,97,116,101],.str [63,63,63,63,46,63,63,46,63,63]],.tup [.str [82,111,117,110,100],.str [63]],.tup [.str [87,104,105,116,101],.str [63]],.tup [.str [66,108,97,99,107],.str [63]]])
noncomputable def FZ:V:=(.tup [.str [82,101,115,117,108,116],.str [83,101,116,85,112],.str [70,69,78]])
noncomputable def zH:V:=(.tup [.tup [.int 4,.int 5,.bool true,.str [45]],.tup [.int 7,.int 3,.bool false,.str [75,81,107,113]],.tup [.int 6,.int 5,.bool true,.str [81,113]],.tup [.int 8,.int 8,.bool true,.str [75,81,107,113]]])
noncomputable def CQ:V:=(.tup [.str [69,118,101,110,116],.str [82,111,117,110,100],.str [66,108,97,99,107],.str [82,101,115,117,108,116],.str [83,101,116,85,112],.str [70,69,78],.str [69,67,79],.str [90,101,105,116],.str [97,95,49],.str [83,105,116,101],.str [68,97,116,101],.str [87,104,105,116,101],.str [66]])
noncomputable def zG:V:=(.tup [.str [63],.str [120,32,121],.str [49,45,48],.str [48]])
noncomputable def vC:V:=(.tup [.str [42],.str [49,45,48],.str [48,45,49],.str [49,47,50,45,49,47,50]])
noncomputable def CP:V:=(.tup [.tup [.str [69,118,101,110,116],.str [63]],.tup [.str [83,105,116,101],.str [63]],.tup [.str [68,97,116,101],.str [63,63,63,63,46,63,63,46,63,63]],.tup [.str [82,111,117,110,100],.str [63]],.tup [.str [87,104,105,116,101],.str [63]],.tup [.str [66,108,97,99,107],.str [63]]])
noncomputable def FY:V:=(.tup [.tup [.str [107,51,47,52,47,52,47,49,80,50,47,51,75,32,98,32,45,32,45,32,51,32,49,55],.str [107,51,47,52,47,52,47,49,80,50,47,51,75,32,98,32,45,32,45,32,51,32,49,55]],.tup [.str [107,51,47,52,47,52,47,80,112,50,47,51,75,32,119,32,45,32,98,51,32,48,32,50],.str [107,51,47,52,47,52,47,80,112,50,47,51,75,32,119,32,45,32,98,51,32,48,32,50]],.tup [.str [107,51,47,52,47,52,47,49,112,49,80,47,51,75,32,119,32,45,32,98,51,32,48,32,50],.str [107,51,47,52,47,52,47,49,112,49,80,47,51,75,32,119,32,45,32,45,32,48,32,50]],.tup [.str [107,51,47,52,47,52,47,49,80,50,47,51,75,32,98,32,45,32,45,32,51],.str []],.tup [.str [107,51,47,52,47,52,47,49,80,50,47,51,75,32,98,32,45,32,45,32,51,32,48],.str []],.tup [.str [107,51,47,52,47,52,47,49,80,50,47,75,75,50,32,119,32,45,32,45,32,48,32,49],.str []],.tup [.str [107,51,47,52,47,52,47,52,47,82,50,75,32,119,32,45,32,45,32,48,32,49],.str []],.tup [.str [80,50,107,47,52,47,52,47,52,47,75,51,32,119,32,45,32,45,32,48,32,49],.str []]])
def aU(k:Nat):Fn:=(sel (Nat.blt k 40) (sel (Nat.blt k 20) (sel (Nat.blt k 10) (sel (Nat.blt k 5) (sel (Nat.blt k 2) (sel (Nat.blt k 1) ⟨fD,2,2⟩ ⟨qH,2,2⟩) (sel (Nat.blt k 3) ⟨rP,2,2⟩ (sel (Nat.blt k 4) ⟨nF,3,3⟩ ⟨wE,3,3⟩))) (sel (Nat.blt k 7) (sel (Nat.blt k 6) ⟨iN,3,3⟩ ⟨zU,2,2⟩) (sel (Nat.blt k 8) ⟨MG,1,1⟩ (sel (Nat.blt k 9) ⟨MI,1,1⟩ ⟨GU,1,1⟩)))) (sel (Nat.blt k 15) (sel (Nat.blt k 12) (sel (Nat.blt k 11) ⟨DO,1,1⟩ ⟨GR,1,1⟩) (sel (Nat.blt k 13) ⟨rN,5,5⟩ (sel (Nat.blt k 14) ⟨zV,1,1⟩ ⟨DU,1,5⟩))) (sel (Nat.blt k 17) (sel (Nat.blt k 16) ⟨rL,2,3⟩ ⟨GW,1,8⟩) (sel (Nat.blt k 18) ⟨DT,1,2⟩ (sel (Nat.blt k 19) ⟨wC,1,11⟩ ⟨wD,1,7⟩))))) (sel (Nat.blt k 30) (sel (Nat.blt k 25) (sel (Nat.blt k 22) (sel (Nat.blt k 21) ⟨rK,4,5⟩ ⟨vU,4,7⟩) (sel (Nat.blt k 23) ⟨uG,3,5⟩ (sel (Nat.blt k 24) ⟨qG,3,5⟩ ⟨rJ,1,1⟩))) (sel (Nat.blt k 27) (sel (Nat.blt k 26) ⟨MJ,1,3⟩ ⟨TZ,1,1⟩) (sel (Nat.blt k 28) ⟨uK,5,5⟩ (sel (Nat.blt k 29) ⟨DJ,1,3⟩ ⟨GV,1,5⟩)))) (sel (Nat.blt k 35) (sel (Nat.blt k 32) (sel (Nat.blt k 31) ⟨rM,3,3⟩ ⟨DN,3,4⟩) (sel (Nat.blt k 33) ⟨TY,3,3⟩ (sel (Nat.blt k 34) ⟨vV,2,2⟩ ⟨zR,1,1⟩))) (sel (Nat.blt k 37) (sel (Nat.blt k 36) ⟨DS,2,5⟩ ⟨vY,2,2⟩) (sel (Nat.blt k 38) ⟨wB,1,3⟩ (sel (Nat.blt k 39) ⟨wA,1,3⟩ ⟨uI,1,3⟩)))))) (sel (Nat.blt k 60) (sel (Nat.blt k 50) (sel (Nat.blt k 45) (sel (Nat.blt k 42) (sel (Nat.blt k 41) ⟨nC,1,1⟩ ⟨nD,1,1⟩) (sel (Nat.blt k 43) ⟨qE,3,3⟩ (sel (Nat.blt k 44) ⟨qC,3,5⟩ ⟨vW,4,8⟩))) (sel (Nat.blt k 47) (sel (Nat.blt k 46) ⟨vX,2,3⟩ ⟨vM,2,2⟩) (sel (Nat.blt k 48) ⟨vO,3,5⟩ (sel (Nat.blt k 49) ⟨uH,1,4⟩ ⟨GP,2,7⟩)))) (sel (Nat.blt k 55) (sel (Nat.blt k 52) (sel (Nat.blt k 51) ⟨zT,3,7⟩ ⟨DM,1,1⟩) (sel (Nat.blt k 53) ⟨vP,1,5⟩ (sel (Nat.blt k 54) ⟨MH,3,4⟩ ⟨zS,3,4⟩))) (sel (Nat.blt k 57) (sel (Nat.blt k 56) ⟨vQ,2,5⟩ ⟨uJ,1,2⟩) (sel (Nat.blt k 58) ⟨vZ,1,2⟩ (sel (Nat.blt k 59) ⟨qF,5,11⟩ ⟨GQ,3,7⟩))))) (sel (Nat.blt k 70) (sel (Nat.blt k 65) (sel (Nat.blt k 62) (sel (Nat.blt k 61) ⟨DH,1,4⟩ ⟨vK,2,4⟩) (sel (Nat.blt k 63) ⟨uE,1,3⟩ (sel (Nat.blt k 64) ⟨uF,1,3⟩ ⟨DI,1,1⟩))) (sel (Nat.blt k 67) (sel (Nat.blt k 66) ⟨DK,1,4⟩ ⟨vL,1,5⟩) (sel (Nat.blt k 68) ⟨DL,1,3⟩ (sel (Nat.blt k 69) ⟨lG,5,5⟩ ⟨TX,2,3⟩)))) (sel (Nat.blt k 75) (sel (Nat.blt k 72) (sel (Nat.blt k 71) ⟨qD,3,5⟩ ⟨rO,3,3⟩) (sel (Nat.blt k 73) ⟨GS,0,0⟩ (sel (Nat.blt k 74) ⟨zW,1,3⟩ ⟨GO,3,4⟩))) (sel (Nat.blt k 78) (sel (Nat.blt k 76) ⟨DR,2,7⟩ (sel (Nat.blt k 77) ⟨DP,3,8⟩ ⟨GT,2,3⟩)) (sel (Nat.blt k 79) ⟨nE,4,11⟩ (sel (Nat.blt k 80) ⟨lF,3,4⟩ ⟨DQ,1,27⟩)))))))
def pX(k:Nat):V:=(sel (Nat.blt k 13) (sel (Nat.blt k 6) (sel (Nat.blt k 3) (sel (Nat.blt k 1) XJ (sel (Nat.blt k 2) XN aCN)) (sel (Nat.blt k 4) SH (sel (Nat.blt k 5) SK aCM))) (sel (Nat.blt k 9) (sel (Nat.blt k 7) XK (sel (Nat.blt k 8) aCO XM)) (sel (Nat.blt k 11) (sel (Nat.blt k 10) LT LU) (sel (Nat.blt k 12) zJ zI)))) (sel (Nat.blt k 19) (sel (Nat.blt k 16) (sel (Nat.blt k 14) tR (sel (Nat.blt k 15) vD SJ)) (sel (Nat.blt k 17) rH (sel (Nat.blt k 18) zK SG))) (sel (Nat.blt k 22) (sel (Nat.blt k 20) FZ (sel (Nat.blt k 21) zH CQ)) (sel (Nat.blt k 24) (sel (Nat.blt k 23) zG vC) (sel (Nat.blt k 25) CP FY)))))
def dF(k:Nat):Nat:=(sel (Nat.blt k 5) (sel (Nat.blt k 2) (sel (Nat.blt k 1) 0 1) (sel (Nat.blt k 3) 2 (sel (Nat.blt k 4) 3 4))) (sel (Nat.blt k 8) (sel (Nat.blt k 6) 5 (sel (Nat.blt k 7) 12 27)) (sel (Nat.blt k 9) 30 (sel (Nat.blt k 10) 68 71))))
def tb{R:Type}(k n:Nat)(a b:R):R:=sel (Nat.blt k n) a b
def jY(k:Nat):Nat:=(tb k 40 (tb k 20 (tb k 10 (tb k 5 (tb k 2 (tb k 1 28 48) (tb k 3 67 (tb k 4 86 105))) (tb k 7 (tb k 6 124 136) (tb k 8 143 (tb k 9 150 157)))) (tb k 15 (tb k 12 (tb k 11 164 171) (tb k 13 187 (tb k 14 201 208))) (tb k 17 (tb k 16 215 222) (tb k 18 229 (tb k 19 236 243))))) (tb k 30 (tb k 25 (tb k 22 (tb k 21 250 257) (tb k 23 264 (tb k 24 271 278))) (tb k 27 (tb k 26 285 292) (tb k 28 306 (tb k 29 320 327)))) (tb k 35 (tb k 32 (tb k 31 341 355) (tb k 33 362 (tb k 34 369 376))) (tb k 37 (tb k 36 383 390) (tb k 38 397 (tb k 39 404 411)))))) (tb k 60 (tb k 50 (tb k 45 (tb k 42 (tb k 41 418 425) (tb k 43 432 (tb k 44 439 446))) (tb k 47 (tb k 46 453 460) (tb k 48 467 (tb k 49 474 481)))) (tb k 55 (tb k 52 (tb k 51 488 495) (tb k 53 502 (tb k 54 509 516))) (tb k 57 (tb k 56 523 530) (tb k 58 537 (tb k 59 544 551))))) (tb k 70 (tb k 65 (tb k 62 (tb k 61 558 565) (tb k 63 572 (tb k 64 579 586))) (tb k 67 (tb k 66 593 598) (tb k 68 605 (tb k 69 619 633)))) (tb k 75 (tb k 72 (tb k 71 640 654) (tb k 73 668 (tb k 74 683 690))) (tb k 78 (tb k 76 695 (tb k 77 726 733)) (tb k 79 738 (tb k 80 745 750)))))))
def GD(k:Nat):PySem.Str:=(tb k 40 (tb k 20 (tb k 10 (tb k 5 (tb k 2 (tb k 1 ⟨⟨[]⟩⟩ ⟨⟨[]⟩⟩) (tb k 3 ⟨⟨[]⟩⟩ (tb k 4 ⟨⟨[]⟩⟩ ⟨⟨[]⟩⟩))) (tb k 7 (tb k 6 ⟨⟨[]⟩⟩ ⟨⟨[109,97,107,101,95,112,105,101,99,101]⟩⟩) (tb k 8 ⟨⟨[115,105,100,101,95,111,102]⟩⟩ (tb k 9 ⟨⟨[107,105,110,100,95,111,102]⟩⟩ ⟨⟨[105,115,95,112,105,101,99,101]⟩⟩)))) (tb k 15 (tb k 12 (tb k 11 ⟨⟨[108,101,116,116,101,114,95,111,102]⟩⟩ ⟨⟨[112,105,101,99,101,95,111,102]⟩⟩) (tb k 13 ⟨⟨[]⟩⟩ (tb k 14 ⟨⟨[105,115,95,103,114,111,119,105,110,103]⟩⟩ ⟨⟨[97,100,100,95,109,97,115,107,115]⟩⟩))) (tb k 17 (tb k 16 ⟨⟨[105,110,110,101,114,95,115,113,117,97,114,101,115]⟩⟩ ⟨⟨[97,100,100,95,114,97,121,115]⟩⟩) (tb k 18 ⟨⟨[97,100,100,95,112,97,119,110,115]⟩⟩ (tb k 19 ⟨⟨[97,100,100,95,107,110,105,103,104,116,115]⟩⟩ ⟨⟨[97,100,100,95,99,97,115,116,108,101,115]⟩⟩))))) (tb k 30 (tb k 25 (tb k 22 (tb k 21 ⟨⟨[109,97,107,101,95,103,101,111,109,101,116,114,121]⟩⟩ ⟨⟨[114,97,121,95,97,116,116,97,99,107,115]⟩⟩) (tb k 23 ⟨⟨[114,111,111,107,95,97,116,116,97,99,107,115]⟩⟩ (tb k 24 ⟨⟨[98,105,115,104,111,112,95,97,116,116,97,99,107,115]⟩⟩ ⟨⟨[109,111,114,101,95,116,104,97,110,95,111,110,101]⟩⟩))) (tb k 27 (tb k 26 ⟨⟨[104,105,103,104,101,115,116]⟩⟩ ⟨⟨[108,111,119,101,115,116]⟩⟩) (tb k 28 ⟨⟨[]⟩⟩ (tb k 29 ⟨⟨[115,116,97,116,101,95,107,101,121]⟩⟩ ⟨⟨[102,117,108,108,95,107,101,121]⟩⟩)))) (tb k 35 (tb k 32 (tb k 31 ⟨⟨[]⟩⟩ ⟨⟨[112,117,116,95,112,105,101,99,101]⟩⟩) (tb k 33 ⟨⟨[112,105,101,99,101,115]⟩⟩ (tb k 34 ⟨⟨[107,105,110,103,95,115,113,117,97,114,101]⟩⟩ ⟨⟨[115,101,116,116,108,101,95,107,101,121]⟩⟩))) (tb k 37 (tb k 36 ⟨⟨[101,112,95,115,116,97,110,100,115]⟩⟩ ⟨⟨[101,112,95,97,116,116,97,99,107,101,100]⟩⟩) (tb k 38 ⟨⟨[99,104,101,99,107,95,107,105,110,103,115]⟩⟩ (tb k 39 ⟨⟨[99,104,101,99,107,95,112,97,119,110,115]⟩⟩ ⟨⟨[99,104,101,99,107,95,114,105,103,104,116,115]⟩⟩)))))) (tb k 60 (tb k 50 (tb k 45 (tb k 42 (tb k 41 ⟨⟨[115,116,114,97,105,103,104,116,95,115,108,105,100,101,114,115]⟩⟩ ⟨⟨[115,108,97,110,116,105,110,103,95,115,108,105,100,101,114,115]⟩⟩) (tb k 43 ⟨⟨[112,97,119,110,95,97,116,116,97,99,107,101,114,115]⟩⟩ (tb k 44 ⟨⟨[115,116,101,112,95,97,116,116,97,99,107,101,114,115]⟩⟩ ⟨⟨[105,115,95,97,116,116,97,99,107,101,100]⟩⟩))) (tb k 47 (tb k 46 ⟨⟨[105,110,95,99,104,101,99,107,95,111,102]⟩⟩ ⟨⟨[115,113,117,97,114,101,95,110,97,109,101]⟩⟩) (tb k 48 ⟨⟨[114,101,97,100,95,115,113,117,97,114,101]⟩⟩ (tb k 49 ⟨⟨[112,108,97,105,110,95,110,117,109,98,101,114]⟩⟩ ⟨⟨[114,101,97,100,95,114,111,119]⟩⟩)))) (tb k 55 (tb k 52 (tb k 51 ⟨⟨[114,101,97,100,95,98,111,97,114,100]⟩⟩ ⟨⟨[114,101,97,100,95,115,105,100,101]⟩⟩) (tb k 53 ⟨⟨[114,101,97,100,95,114,105,103,104,116,115]⟩⟩ (tb k 54 ⟨⟨[114,101,97,100,95,101,112]⟩⟩ ⟨⟨[114,101,97,100,95,99,108,111,99,107]⟩⟩))) (tb k 57 (tb k 56 ⟨⟨[114,101,97,100,95,102,105,101,108,100,115]⟩⟩ ⟨⟨[99,104,101,99,107,95,112,105,101,99,101,115]⟩⟩) (tb k 58 ⟨⟨[99,104,101,99,107,95,119,105,110,103,115]⟩⟩ (tb k 59 ⟨⟨[98,117,105,108,100,95,112,111,115,105,116,105,111,110]⟩⟩ ⟨⟨[114,101,97,100,95,102,101,110]⟩⟩))))) (tb k 70 (tb k 65 (tb k 62 (tb k 61 ⟨⟨[119,114,105,116,101,95,114,111,119]⟩⟩ ⟨⟨[119,114,105,116,101,95,98,111,97,114,100]⟩⟩) (tb k 63 ⟨⟨[119,114,105,116,101,95,114,105,103,104,116,115]⟩⟩ (tb k 64 ⟨⟨[119,114,105,116,101,95,102,105,101,108,100,115]⟩⟩ ⟨⟨[119,114,105,116,101,95,102,101,110]⟩⟩))) (tb k 67 (tb k 66 ⟨⟨[115,116,97,114,116,95,114,111,119]⟩⟩ ⟨⟨[115,116,97,114,116,95,98,111,97,114,100]⟩⟩) (tb k 68 ⟨⟨[115,116,97,114,116,95,102,101,110]⟩⟩ (tb k 69 ⟨⟨[]⟩⟩ ⟨⟨[116,97,103,95,111,102]⟩⟩)))) (tb k 75 (tb k 72 (tb k 71 ⟨⟨[115,116,97,114,116,95,112,111,115,105,116,105,111,110]⟩⟩ ⟨⟨[]⟩⟩) (tb k 73 ⟨⟨[110,101,119,95,114,111,111,116]⟩⟩ (tb k 74 ⟨⟨[99,104,101,99,107,95,116,97,103,115]⟩⟩ ⟨⟨[118,97,108,117,101,95,111,102]⟩⟩))) (tb k 78 (tb k 76 ⟨⟨[102,117,108,108,95,116,97,103,115]⟩⟩ (tb k 77 ⟨⟨[95,108,97,119,95,117,115,117,97,108]⟩⟩ ⟨⟨[95,108,97,119,95,108,111,110,101]⟩⟩)) (tb k 79 ⟨⟨[95,108,97,119,95,102,117,108,108]⟩⟩ (tb k 80 ⟨⟨[95,108,97,119,95,115,116,97,114,116]⟩⟩ ⟨⟨[108,97,119]⟩⟩)))))))
def HU(k:Nat):Nat:=(tb k 40 (tb k 20 (tb k 10 (tb k 5 (tb k 2 (tb k 1 1 2) (tb k 3 2 (tb k 4 2 2))) (tb k 7 (tb k 6 2 1) (tb k 8 1 (tb k 9 1 1)))) (tb k 15 (tb k 12 (tb k 11 3 1) (tb k 13 1 (tb k 14 1 1))) (tb k 17 (tb k 16 1 2) (tb k 18 1 (tb k 19 1 1))))) (tb k 30 (tb k 25 (tb k 22 (tb k 21 3 2) (tb k 23 3 (tb k 24 3 1))) (tb k 27 (tb k 26 1 2) (tb k 28 1 (tb k 29 1 2)))) (tb k 35 (tb k 32 (tb k 31 1 2) (tb k 33 1 (tb k 34 3 3))) (tb k 37 (tb k 36 2 2) (tb k 38 3 (tb k 39 3 3)))))) (tb k 60 (tb k 50 (tb k 45 (tb k 42 (tb k 41 1 1) (tb k 43 1 (tb k 44 2 4))) (tb k 47 (tb k 46 5 3) (tb k 48 1 (tb k 49 1 2)))) (tb k 55 (tb k 52 (tb k 51 3 3) (tb k 53 3 (tb k 54 3 3))) (tb k 57 (tb k 56 4 4) (tb k 58 4 (tb k 59 6 7))))) (tb k 70 (tb k 65 (tb k 62 (tb k 61 4 5) (tb k 63 1 (tb k 64 6 7))) (tb k 67 (tb k 66 1 6) (tb k 68 7 (tb k 69 1 1)))) (tb k 75 (tb k 72 (tb k 71 8 1) (tb k 73 2 (tb k 74 3 1))) (tb k 78 (tb k 76 8 (tb k 77 1 1)) (tb k 79 1 (tb k 80 9 10)))))))
def RY(k:Nat):Bool:=(tb k 40 (tb k 20 (tb k 10 (tb k 5 (tb k 2 (tb k 1 true false) (tb k 3 false (tb k 4 false true))) (tb k 7 (tb k 6 true false) (tb k 8 false (tb k 9 false false)))) (tb k 15 (tb k 12 (tb k 11 false false) (tb k 13 false (tb k 14 false false))) (tb k 17 (tb k 16 false false) (tb k 18 false (tb k 19 false false))))) (tb k 30 (tb k 25 (tb k 22 (tb k 21 false false) (tb k 23 false (tb k 24 false false))) (tb k 27 (tb k 26 false false) (tb k 28 false (tb k 29 false false)))) (tb k 35 (tb k 32 (tb k 31 false false) (tb k 33 false (tb k 34 false false))) (tb k 37 (tb k 36 false false) (tb k 38 false (tb k 39 false false)))))) (tb k 60 (tb k 50 (tb k 45 (tb k 42 (tb k 41 false false) (tb k 43 false (tb k 44 false false))) (tb k 47 (tb k 46 false false) (tb k 48 false (tb k 49 false false)))) (tb k 55 (tb k 52 (tb k 51 false false) (tb k 53 false (tb k 54 false false))) (tb k 57 (tb k 56 false false) (tb k 58 false (tb k 59 false false))))) (tb k 70 (tb k 65 (tb k 62 (tb k 61 false false) (tb k 63 false (tb k 64 false false))) (tb k 67 (tb k 66 false false) (tb k 68 false (tb k 69 false false)))) (tb k 75 (tb k 72 (tb k 71 false false) (tb k 73 false (tb k 74 false false))) (tb k 78 (tb k 76 false (tb k 77 false false)) (tb k 79 false (tb k 80 false false)))))))
def NT(k:Nat):Bool:=(tb k 40 (tb k 20 (tb k 10 (tb k 5 (tb k 2 (tb k 1 false false) (tb k 3 false (tb k 4 false false))) (tb k 7 (tb k 6 false true) (tb k 8 true (tb k 9 true true)))) (tb k 15 (tb k 12 (tb k 11 true true) (tb k 13 false (tb k 14 true true))) (tb k 17 (tb k 16 true true) (tb k 18 true (tb k 19 true true))))) (tb k 30 (tb k 25 (tb k 22 (tb k 21 true true) (tb k 23 true (tb k 24 true true))) (tb k 27 (tb k 26 true true) (tb k 28 false (tb k 29 true true)))) (tb k 35 (tb k 32 (tb k 31 false true) (tb k 33 true (tb k 34 true true))) (tb k 37 (tb k 36 true true) (tb k 38 true (tb k 39 true true)))))) (tb k 60 (tb k 50 (tb k 45 (tb k 42 (tb k 41 true true) (tb k 43 true (tb k 44 true true))) (tb k 47 (tb k 46 true true) (tb k 48 true (tb k 49 true true)))) (tb k 55 (tb k 52 (tb k 51 true true) (tb k 53 true (tb k 54 true true))) (tb k 57 (tb k 56 true true) (tb k 58 true (tb k 59 true true))))) (tb k 70 (tb k 65 (tb k 62 (tb k 61 true true) (tb k 63 true (tb k 64 true true))) (tb k 67 (tb k 66 true true) (tb k 68 true (tb k 69 false true)))) (tb k 75 (tb k 72 (tb k 71 true false) (tb k 73 true (tb k 74 true true))) (tb k 78 (tb k 76 true (tb k 77 true true)) (tb k 79 true (tb k 80 true true)))))))
def cA(k:Nat):Nat:=(tb k 5 (tb k 2 (tb k 1 31 51) (tb k 3 70 (tb k 4 89 108))) (tb k 8 (tb k 6 127 (tb k 7 190 309)) (tb k 9 344 (tb k 10 622 657))))
def YE(k:Nat):PySem.Str:=(tb k 5 (tb k 2 (tb k 1 ⟨⟨[67,104,101,115,115,69,114,114,111,114]⟩⟩ ⟨⟨[66,97,100,83,113,117,97,114,101]⟩⟩) (tb k 3 ⟨⟨[66,97,100,80,105,101,99,101]⟩⟩ (tb k 4 ⟨⟨[66,97,100,80,111,115,105,116,105,111,110]⟩⟩ ⟨⟨[66,97,100,70,101,110]⟩⟩))) (tb k 8 (tb k 6 ⟨⟨[66,97,100,80,103,110]⟩⟩ (tb k 7 ⟨⟨[71,101,111,109,101,116,114,121]⟩⟩ ⟨⟨[90,111,98,114,105,115,116]⟩⟩)) (tb k 9 ⟨⟨[80,111,115,105,116,105,111,110]⟩⟩ (tb k 10 ⟨⟨[71,97,109,101]⟩⟩ ⟨⟨[71,97,109,101,78,111,100,101]⟩⟩))))
def LP(k:Nat):PySem.Str:=(tb k 13 (tb k 6 (tb k 3 (tb k 1 ⟨⟨[87,72,73,84,69]⟩⟩ (tb k 2 ⟨⟨[66,76,65,67,75]⟩⟩ ⟨⟨[80,65,87,78]⟩⟩)) (tb k 4 ⟨⟨[75,78,73,71,72,84]⟩⟩ (tb k 5 ⟨⟨[66,73,83,72,79,80]⟩⟩ ⟨⟨[82,79,79,75]⟩⟩))) (tb k 9 (tb k 7 ⟨⟨[81,85,69,69,78]⟩⟩ (tb k 8 ⟨⟨[75,73,78,71]⟩⟩ ⟨⟨[69,77,80,84,89]⟩⟩)) (tb k 11 (tb k 10 ⟨⟨[78,79,95,77,79,86,69]⟩⟩ ⟨⟨[76,69,84,84,69,82,83]⟩⟩) (tb k 12 ⟨⟨[83,84,69,80,95,70,73,76,69,83]⟩⟩ ⟨⟨[83,84,69,80,95,82,65,78,75,83]⟩⟩)))) (tb k 19 (tb k 16 (tb k 14 ⟨⟨[70,73,76,69,95,76,69,84,84,69,82,83]⟩⟩ (tb k 15 ⟨⟨[82,65,78,75,95,68,73,71,73,84,83]⟩⟩ ⟨⟨[68,73,71,73,84,83]⟩⟩)) (tb k 17 ⟨⟨[82,73,71,72,84,95,76,69,84,84,69,82,83]⟩⟩ (tb k 18 ⟨⟨[70,85,76,76,95,83,84,65,82,84]⟩⟩ ⟨⟨[82,79,83,84,69,82]⟩⟩))) (tb k 22 (tb k 20 ⟨⟨[79,87,78,95,84,65,71,83]⟩⟩ (tb k 21 ⟨⟨[95,108,97,119,95,115,104,97,112,101,115]⟩⟩ ⟨⟨[95,108,97,119,95,110,97,109,101,115]⟩⟩)) (tb k 24 (tb k 23 ⟨⟨[95,108,97,119,95,118,97,108,117,101,115]⟩⟩ ⟨⟨[95,108,97,119,95,114,101,115,117,108,116,115]⟩⟩) (tb k 25 ⟨⟨[95,108,97,119,95,115,101,118,101,110]⟩⟩ ⟨⟨[95,108,97,119,95,116,111,108,100]⟩⟩)))))
def UE(k:Nat):PySem.Str:=(tb k 43 (tb k 21 (tb k 10 (tb k 5 (tb k 2 (tb k 1 ⟨⟨[116,101,120,116]⟩⟩ ⟨⟨[115,113,117,97,114,101]⟩⟩) (tb k 3 ⟨⟨[112,105,101,99,101]⟩⟩ (tb k 4 ⟨⟨[112,97,114,116]⟩⟩ ⟨⟨[97,116]⟩⟩))) (tb k 7 (tb k 6 ⟨⟨[102,105,108,101,115]⟩⟩ ⟨⟨[114,97,110,107,115]⟩⟩) (tb k 8 ⟨⟨[115,105,122,101]⟩⟩ (tb k 9 ⟨⟨[102,117,108,108]⟩⟩ ⟨⟨[104,97,115,95,100,111,117,98,108,101]⟩⟩)))) (tb k 15 (tb k 12 (tb k 11 ⟨⟨[104,97,115,95,99,97,115,116,108,105,110,103]⟩⟩ ⟨⟨[102,105,108,101,95,109,97,115,107,115]⟩⟩) (tb k 13 ⟨⟨[114,97,110,107,95,109,97,115,107,115]⟩⟩ (tb k 14 ⟨⟨[114,97,121,115]⟩⟩ ⟨⟨[107,105,110,103]⟩⟩))) (tb k 18 (tb k 16 ⟨⟨[107,110,105,103,104,116]⟩⟩ (tb k 17 ⟨⟨[112,97,119,110]⟩⟩ ⟨⟨[99,97,115,116,108,101,115]⟩⟩)) (tb k 19 ⟨⟨[114,105,103,104,116,115,95,108,111,115,116]⟩⟩ (tb k 20 ⟨⟨[112,105,101,99,101,115]⟩⟩ ⟨⟨[101,112]⟩⟩))))) (tb k 32 (tb k 26 (tb k 23 (tb k 22 ⟨⟨[114,105,103,104,116,115]⟩⟩ ⟨⟨[115,105,100,101]⟩⟩) (tb k 24 ⟨⟨[122,111,98]⟩⟩ (tb k 25 ⟨⟨[103,101,111]⟩⟩ ⟨⟨[98,111,97,114,100]⟩⟩))) (tb k 29 (tb k 27 ⟨⟨[107,105,110,100,115]⟩⟩ (tb k 28 ⟨⟨[115,105,100,101,115]⟩⟩ ⟨⟨[104,97,108,102]⟩⟩)) (tb k 30 ⟨⟨[107,101,121]⟩⟩ (tb k 31 ⟨⟨[104,105,115,116,111,114,121]⟩⟩ ⟨⟨[116,97,103,115]⟩⟩)))) (tb k 37 (tb k 34 (tb k 33 ⟨⟨[114,111,111,116]⟩⟩ ⟨⟨[115,116,97,114,116]⟩⟩) (tb k 35 ⟨⟨[114,101,115,117,108,116]⟩⟩ (tb k 36 ⟨⟨[109,111,118,101]⟩⟩ ⟨⟨[112,97,114,101,110,116]⟩⟩))) (tb k 40 (tb k 38 ⟨⟨[119,111,114,100]⟩⟩ (tb k 39 ⟨⟨[112,108,97,99,101]⟩⟩ ⟨⟨[118,97,114,105,97,116,105,111,110,115]⟩⟩)) (tb k 41 ⟨⟨[114,101,109,97,114,107,115]⟩⟩ (tb k 42 ⟨⟨[110,97,103,115]⟩⟩ ⟨⟨[98,101,102,111,114,101]⟩⟩)))))) ⟨⟨[Nat.add 1000 k]⟩⟩)
noncomputable def orT(a b:Bool):Bool:=match a with|true=>true|false=>b
def kK(a c:Nat):Bool:=(orT (sel (Nat.beq a 0) (Nat.beq c 0) false) (orT (sel (Nat.beq a 1) (Nat.beq c 1) false) (orT (sel (Nat.beq a 1) (Nat.beq c 0) false) (orT (sel (Nat.beq a 2) (Nat.beq c 2) false) (orT (sel (Nat.beq a 2) (Nat.beq c 0) false) (orT (sel (Nat.beq a 3) (Nat.beq c 3) false) (orT (sel (Nat.beq a 3) (Nat.beq c 0) false) (orT (sel (Nat.beq a 4) (Nat.beq c 4) false) (orT (sel (Nat.beq a 4) (Nat.beq c 0) false) (orT (sel (Nat.beq a 5) (Nat.beq c 5) false) (orT (sel (Nat.beq a 5) (Nat.beq c 0) false) false)))))))))))
noncomputable def nFn:Nat:=81
noncomputable def nCl:Nat:=11
noncomputable def nX:Nat:=6
noncomputable def nGl:Nat:=26
noncomputable def nAt:Nat:=43
end Mine.Internal
end
noncomputable section
open PySem PySem.W PyProof.Rows PySem.Calls PySem.SeqAt
namespace Mine.Internal
variable {s:Shared}{n:Nat}{G:Gh}
noncomputable def Kit.low(k:Kit):Kit:={ k with tk:=0 }
theorem Inv.up{k:Kit}{P G σ}(I:Inv k.low P G σ s)(h:k.tk<=s.toks):Inv k P G σ s:=
 ⟨I.g0,I.gens,I.os,h,I.base,I.pins,I.pinsB,I.pinsK,I.size,I.few,I.objs,I.full,I.apart,I.own,I.tups,I.rngs,I.excs,I.fz⟩
theorem Inv.toks0{k:Kit}{P G σ}{t:Nat}(I:Inv k.low P G σ s):Inv k.low P G σ { s with toks:=t }:=
 ⟨I.g0,I.gens,I.os,Nat.zero_le _,I.base,I.pins,I.pinsB,I.pinsK,I.size,I.few,I.objs,I.full,I.apart,I.own,I.tups,I.rngs,I.excs,I.fz⟩
section
variable {k:Kit}{I:Nm}{fi:Nat->FnI}{n N:Nat}{S:Sit}
theorem AT(ok:S.OK)(K:bX S.k)(ht:S.k.tk<=1){ih:Ev}{z:Int}{x:Str}{p1 p2 pos:Pos}{kc:Nat}(hx:x=biN .range)(hk:S.C.kinds.lookup x=some .globalImplicit)(hg:S.k.mg x=none)(hm:S.k.mb x=some (biV .range))(hd:(x == ("__debug__" : Str))=false)(hc:∀l s,ih.e (.c (.int z)) l s=.ok (.int z) s):∀ ⦃l G σ s⦄,Inv S.k.low S.P G σ s->FR S l G s.heap->dL S.A G->
  lI VR S l G ((evs ih l [.c (.int z)] σ).bind (bi .range)) (eval (.Call (.Name x p1) [.Constant (.int z) kc p2] [] pos) S.env) s:=by
 intro l G σ s I F H hn;have e:(evs ih l [.c (.int z)] σ).bind (bi .range)=.ok (.rng 0 z 1) σ:=by rw[oS,hc];rfl
 refine rwl (e ..) ?_;have K':S.k.low.B=S.k.B:=rfl;refine Call_ (Name_function_global ok.fn (by show S.env.scope.names.lookup x=_;rw[ok.kinds];exact hk) ?_ hd);refine loadGlobal_builtin (mg:=S.k.mg) (mb:=S.k.mb) (by rw[ok.globals];exact I.ns (k:=S.k.low) K.nsG) hg (by rw[ok.builtins];exact I.ns (k:=S.k.low) K.nsB) hm ?_;refine lE (b:=.range) (λe he=>by rcases List.mem_cons.mp he with rfl|he;exact rfl;cases he) ?_;refine wpAny_items_cons (wpAny_Constant_int ?_) (cD rfl _ _);refine wpAny_items_nil ?_;have I1:Inv S.k S.P G σ { s with toks:=s.toks+1 }:=(I.toks0).up (aL1 ht (Nat.le_add_left _ _));exact call_range_1 (nP (s:={ s with toks:=s.toks+1 }) I1 F (by dsimp only;exact aET))
theorem aIU{I:Nm}{ih:Ck}{C:Cx}{e:Expr}{b:BI}{args:List CE}(h:ckE I ih C e (.bi b args)=true):
 ∃x p1 es p3,e=.Call (.Name x p1) es [] p3/\sE x (biN b)=true/\lA C x=true/\jD ih C es args=true:=by
 unfold ckE at h;dsimp only at h;refine iU h λx q es p h=>?_;refine yT h λq1 Z q2 q3=>?_;exact aIC _ _ _ _ rfl q1 q2 q3
theorem aCE{I:Nm}{ih:Ck}{C:Cx}{e:Expr}{z:Int}(h:ckE I ih C e (.c (.int z))=true):∃kc p,e=.Constant (.int z) kc p:=by
 unfold ckE at h;dsimp only at h;refine nW h λco kc p h=>aLJ λaA=>?_;cases GJ h with
 |int _=>refine aA ?_;exact⟨_,_,rfl⟩
theorem VK(pk:kA k I fi)(ihs:∀m,m<=n+2->PP k I m)(hk:S.k=k)(ok:S.OK)(ht:k.tk<=1){st:Stmt}{i:Nat}{elt:CE}{tg:Tg}{z:Int}{ifs:List CE}(h:ckS I (chk I N) S.C st (.asg (.n i) (.comp elt tg (.bi .range [.c (.int z)]) ifs))=true):
 ∀ ⦃l G σ s⦄,Inv k.low S.P G σ s->FR S l G s.heap->dL S.A G->MM S G (stepS k.ft k.it k.sup (k.ev (n+3)) (.asg (.n i) (.comp elt tg (.bi .range [.c (.int z)]) ifs)) l σ) (exec st S.env) s:=by
 have tab:=pk.tab;have KO:=pk.kit;subst hk;unfold ckS at h;dsimp only at h;refine oB h λtss a pos h=>?_;refine eT h λx0 h=>?_;unfold aC8 at h;dsimp only at h;refine dH h λx p' h=>?_;refine mO h λh1 h2 h3=>?_;have w:=sF h1;refine aLJ λaA=>?_;cases N with
 |zero=>cases h3
 |succ N=>
  have h3:ckE I (chk I N) S.C a (.comp elt tg (.bi .range [.c (.int z)]) ifs)=true:=h3;unfold ckE at h3;dsimp only at h3;refine aA (BG h3 λy gs scope cp h3=>eT h3 λg h3=>?_);obtain⟨target,iter,ts,za⟩:=g;refine eY h3 λh0 h3=>?_;rw[eO]at h0;obtain rfl:za=0:=of_decide_eq_true h0;refine VH h3 λh1 h2 h3 h4 h5 h6 h7 h8=>?_;have hb:∀S':Sit,S'.k=S.k->S'.C=gP S.C scope target tg->S'.OK->aH S' ((S.k.ev (n+2)).e elt) y/\cU (λe c=>dC S' ((S.k.ev (n+2)).e c) e) ts ifs/\TgR S' target tg:=λS' hk' hC' ok'=>by have ih2:=ihs (n+2) (aLO _);exact⟨ih2.e N S' hk' ok' _ _ (by rw[hC'];exact h6),fE (λe c q=>ih2.t N S' hk' ok' e c (by rw[hC'];exact q)) h7,sI (by rw[hC'];exact h8)⟩
  have src:∀ ⦃l G σ s⦄,Inv S.k.low S.P G σ s->FR S l G s.heap->dL S.A G->lI VR S l G ((S.k.ev (n+2)).e (.bi .range [.c (.int z)]) l σ) (eval iter S.env) s:=by
   refine aLJ λaA=>?_;cases N with
   |zero=>cases h4
   |succ N=>
    have h4:ckE I (chk I N) S.C iter (.bi .range [.c (.int z)])=true:=h4;refine e44 (aIU h4) λx2 p1 es p3 RZ q1 q2 q3=>aA (rwl RZ ?_);obtain⟨g1,g2⟩:=(eR q2);have hx:=eD q1;rcases es with _|⟨e0,_|⟨e1,es⟩⟩;.exact False.elim (by cases q3)
    .obtain⟨q4,q5⟩:=(aX (show sel (sel (bJ e0) ((chk I N).e S.C e0 (.c (.int z))) false) (jD (chk I N) S.C [] []) false=true from q3));refine eY q4 λZ q6=>aLJ λaA=>?_;cases N with
     |zero=>cases q6
     |succ N=>refine e21 (aCE (show ckE I (chk I N) S.C e0 (.c (.int z))=true from q6)) λkc p2 bF=>?_;subst bF;exact aA (AT (ih:=S.k.ev (n+1)) ok KO ht hx g1 (by rw[hx];exact(pk.bi .range).1) (by rw[hx];exact(pk.bi .range).2) g2 (λl s=>rfl))
    .exact e02 (aX (show sel (sel (bJ e0) ((chk I N).e S.C e0 (.c (.int z))) false) (jD (chk I N) S.C (e1::es) []) false=true from q3)) λZ q5=>False.elim (by cases q5)
  refine aLJ λaA=>?_;obtain⟨b,hsw⟩:=(sL y [⟨target,iter,ts,0⟩] scope cp p' x pos.line S.env);cases b with
  |true=>refine aA ?_;exact HS (J:=Inv S.k.low S.P) (ih:=S.k.ev (n+2)) (f:=(S.k.ev (n+2)).e (.bi .range [.c (.int z)])) ok (cB h1) (cB h2) (oV h5) w src h3 hb hsw
  |false=>have gc:=JD (J:=Inv S.k.low S.P) (pos:=cp) (ih:=S.k.ev (n+2)) (f:=(S.k.ev (n+2)).e (.bi .range [.c (.int z)])) ok (cB h1) (cB h2) (oV h5) src h3 hb;exact aA (HT (J:=Inv S.k.low S.P) (g:=(S.k.ev (n+3)).e (.comp elt tg (.bi .range [.c (.int z)]) ifs)) ok w gc hsw)
end
theorem aC3{I:Nm}{N:Nat}{C:Cx}{b:List Stmt}{c:CS}{rc:List CS}(h:(chk I N).b C b (c::rc)=true):∃M st r,b=st::r/\ckS I (chk I M) C st c=true/\(chk I M).b C r rc=true:=by
 cases N with
 |zero=>cases h
 |succ N=>
  have h:ckB I (chk I N) C b (c::rc)=true:=h;cases b with
  |nil=>cases h
  |cons st r=>obtain⟨h1,h2⟩:=aX (show sel (ckS I (chk I N) C st c) ((chk I N).b C r rc) false=true from h);exact⟨N,st,r,rfl,h1,h2⟩
theorem aJL{r:RS}{v:V}{σ:St}(h:r.out=.ok v σ):(∃l,r=.ok .next l σ/\v=.none)\/∃l,r=.ok (.ret v) l σ:=by
 cases r with
 |ok f l s=>
  cases f with
  |next=>cases h;exact .inl ⟨l,rfl,rfl⟩
  |cont=>cases h
  |ret u=>cases h;exact .inr ⟨l,rfl⟩
 |exc e l s=>cases h
 |stuck=>cases h
mutual
inductive VN(m:Nat)(f:Nat->Nat):V->V->Prop where
 |none:VN m f .none .none
 |bool (b):VN m f (.bool b) (.bool b)
 |int (i):VN m f (.int i) (.int i)
 |str (l):VN m f (.str l) (.str l)
 |rng (a b c):VN m f (.rng a b c) (.rng a b c)
 |ref (i):i<m->VN m f (.ref i) (.ref (f i))
 |tup {l₂ l}:VNs m f l₂ l->VN m f (.tup l₂) (.tup l)
 |frz {l₂ l}:VNs m f l₂ l->VN m f (.frz l₂) (.frz l)
inductive VNs(m:Nat)(f:Nat->Nat):List V->List V->Prop where
 |nil:VNs m f [] []
 |cons {dB v l₂ l}:VN m f dB v->VNs m f l₂ l->VNs m f (dB::l₂) (v::l)
end
noncomputable def Gh.ren(G:Gh)(f:Nat->Nat)(m:Nat):Gh:=⟨(List.range m).map λi=>(G.φ[f i]?).getD (0,none),G.tups,G.rngs,[],G.fz⟩
theorem Gh.ren_get{f:Nat->Nat}{m i:Nat}(hi:i<m){ad:Addr×Option Addr}(h:G.φ[f i]? = some ad):(G.ren f m).φ[i]? = some ad:=by unfold Gh.ren;refine rwl (aL8 ..) (rwl (List.getElem?_range hi ..) (?_:some ((G.φ[f i]?).getD (0,none))=_));rw[h];rfl
@[elab_as_elim] theorem VNs.ind{m f}{motive:(l₂ l:List V)->VNs m f l₂ l->Prop}{l₂ l}(h:VNs m f l₂ l)(nil:motive [] [] .nil)(cons:∀{dB v l₂ l}(a:VN m f dB v) (r:VNs m f l₂ l),motive l₂ l r->motive (dB::l₂) (v::l) (.cons a r)):motive l₂ l h:=
 VNs.rec (motive_1:=λZ Z Z=>True) (motive_2:=motive) trivial (λZ=>trivial) (λZ=>trivial) (λZ=>trivial) (λZ Z Z=>trivial) (λZ Z=>trivial) (λZ Z=>trivial)
  (λZ Z=>trivial) nil (λa r Z ih=>cons a r ih) h
theorem VNs.len{m f}{l₂ l:List V}(h:VNs m f l₂ l):l₂.length=l.length:=h.ind rfl λZ Z e=>congrArg (· + 1) e
theorem VR.ren{f:Nat->Nat}{m:Nat}{dB v:V}{x:PySem.Value}(n:VN m f dB v)(h:VR G v x):VR (G.ren f m) dB x:=
 VN.rec (motive_1:=λdB v Z=>∀x,VR G v x->VR (G.ren f m) dB x) (motive_2:=λl₂ l Z=>∀xs,VRs G l xs->VRs (G.ren f m) l₂ xs)
  (λZ h=>by cases h;exact .none) (λZ Z h=>by cases h;exact .bool _) (λZ Z h=>by cases h;exact .int _ _) (λZ Z h=>by cases h with|str _ t h=>exact .str _ t h)
  (λZ Z Z Z h=>by cases h with|rng h=>exact .rng h) (λZ hi Z h=>by cases h with|ref h=>exact .ref (Gh.ren_get hi h))
  (λn ih Z h=>by cases h with|tup h1 h2 h3=>exact .tup h1 (ih _ h2) (n.len▸h3))
  (λn ih Z h=>by cases h with|frz h1 h2 h3=>exact .frz h1 (ih _ h2) (n.len▸h3))
  (λZ h=>h.of_nil▸.nil) (λZ Z i1 i2 Z h=>h.of_cons λZ Z e a r=>e▸.cons (i1 _ a) (i2 _ r)) n x h
theorem VRs.ren{f:Nat->Nat}{m:Nat}{l₂ l:List V}{xs:List PySem.Value}(n:VNs m f l₂ l)(h:VRs G l xs):VRs (G.ren f m) l₂ xs:=by
 induction n using VNs.ind generalizing xs with
 |nil=>exact h.of_nil▸.nil
 |cons a r ih=>exact h.of_cons λZ Z e b c=>e▸.cons (VR.ren a b) (ih c)
inductive FN(m:Nat)(f:Nat->Nat):List (Nat×V)->List (Nat×V)->Prop where
 |nil:FN m f [] []
 |cons {a dB v l₂ l}:VN m f dB v->FN m f l₂ l->FN m f ((a,dB)::l₂) ((a,v)::l)
inductive KN(m:Nat)(f:Nat->Nat):List (List Nat×V)->List (List Nat×V)->Prop where
 |nil:KN m f [] []
 |cons {a dB v l₂ l}:VN m f dB v->KN m f l₂ l->KN m f ((a,dB)::l₂) ((a,v)::l)
inductive ON(m:Nat)(f:Nat->Nat):O->O->Prop where
 |list {l₂ l}:VNs m f l₂ l->ON m f (.list l₂) (.list l)
 |inst {c l₂ l}:FN m f l₂ l->ON m f (.inst c l₂) (.inst c l)
 |dict {l₂ l}:KN m f l₂ l->ON m f (.dict l₂) (.dict l)
theorem FN.len{m f}{l₂ l:List (Nat×V)}(h:FN m f l₂ l):l₂.length=l.length:=by
 induction h with
 |nil=>rfl
 |cons _ _ ih=>exact congrArg (· + 1) ih
theorem KN.len{m f}{l₂ l:List (List Nat×V)}(h:KN m f l₂ l):l₂.length=l.length:=by
 induction h with
 |nil=>rfl
 |cons _ _ ih=>exact congrArg (· + 1) ih
theorem FN.get{m f}{l₂ l:List (Nat×V)}(h:FN m f l₂ l){a dB}(h9:fF l₂ a=some dB):∃v,fF l a=some v/\VN m f dB v:=by
 induction h with
 |nil=>cases h9
 |@cons b aJi w l₂ l hv r ih=>
  have h':(Bool.rec (fF l₂ a) (some aJi) (Nat.beq b a):Option V)=some dB:=h9;refine(?_:∃v,(Bool.rec (fF l a) (some w) (Nat.beq b a):Option V)=some v/\_);cases q:Nat.beq b a with
  |true=>rw[q]at h';cases h';exact⟨w,rfl,hv⟩
  |false=>rw[q]at h';exact ih h'
theorem dG.ren{T:Tab}{f:Nat->Nat}{m:Nat}{g aBl fs}(n:FN m f aBl fs)(x:dG T G g fs):dG T (G.ren f m) g aBl:=λa dB e=>by refine aLJ λaA=>e12 (n.get e) λv h1 h2=>?_;obtain⟨h0,y,h3,h4⟩:=x a v h1;exact aA ⟨h0,y,h3,VR.ren h2 h4⟩
theorem hZ.ren{prog w}{f:Nat->Nat}{m:Nat}{l₂ l es}(n:KN m f l₂ l)(h:hZ prog w G l es):hZ prog w (G.ren f m) l₂ es:=by
 induction n generalizing es with
 |nil=>cases h;exact .nil
 |cons a b ih=>
  cases h with
  |cons h1 h2 r=>exact .cons h1 (VR.ren a h2) (ih r)
theorem OR.ren{prog w T}{f:Nat->Nat}{m i j:Nat}{h:Heap}{ad:Addr×Option Addr}{uW o:O}(n:ON m f uW o)(x:OR prog w T G j h ad o):OR prog w T (G.ren f m) i h ad uW:=by
 cases n with
 |list q=>obtain⟨h1,xs,h2,h3,h4⟩:=x;exact⟨h1,xs,h2,VRs.ren q h3,by rw[q.len];exact h4⟩
 |inst q=>refine aLJ λaA=>?_;obtain⟨h0,ox,d,g,h1,h2,h3,h4,h5,h6,h7,hl⟩:=x;exact aA ⟨h0,ox,d,g,h1,h2,h3,h4,h5,by rw[q.len];exact h6,h7.ren q,by rw[q.len];exact hl⟩
 |dict q=>obtain⟨h1,es,ep,h2,h3,h4⟩:=x;exact⟨h1,es,ep,h2,h3.ren q,by rw[q.len];exact h4⟩
structure ReN(f:Nat->Nat)(aJ σ:St):Prop where
 few:aJ.n<=1000
 inj:∀i j,i<aJ.n->j<aJ.n->f i=f j->i=j
 obj:∀i,i<aJ.n->∃uW o,aJ.h.get i=some uW/\σ.h.get (f i)=some o/\ON aJ.n f uW o
 none:∀i o,aJ.h.get i=some o->i<aJ.n
theorem Gh.ren_inv{f:Nat->Nat}{m i:Nat}{ad:Addr×Option Addr}(h:(G.ren f m).φ[i]? = some ad):i<m/\(G.φ[f i]?).getD (0,none)=ad:=by refine aLJ λaA=>?_;unfold Gh.ren at h;dsimp only at h;rw[aL8]at h;refine e12 (Option.map_eq_some_iff.mp h) λj h1 h2=>e11 (List.getElem?_eq_some_iff.mp h1) λh3 h4=>?_;rw[List.length_range]at h3;rw[List.getElem_range]at h4;subst h4;exact aA ⟨h3,h2⟩
theorem Inv.ren{k:Kit}{P G σ}{f:Nat->Nat}{aJ:St}(I:Inv k P G σ s)(h0:k.G0.φ=[]/\k.G0.excs=[])(R:ReN f aJ σ):Inv k P (G.ren f aJ.n) aJ s:=by
 have at_:∀i,i<aJ.n->∃ad,G.φ[f i]? = some ad:=λi hi=>e23 (R.obj i hi) λuW o Z h2 Z=>e12 (I.objs _ _ h2) λad h3 Z=>⟨ad,h3⟩;have inv:∀(i:Nat) ad,(G.ren f aJ.n).φ[i]? = some ad->i<aJ.n/\G.φ[f i]? = some ad:=λi ad e=>by refine e02 (Gh.ren_inv e) λh1 h2=>e11 (at_ i h1) λad' h3=>?_;rw[h3]at h2;exact⟨h1,by rw[h3];exact congrArg some h2⟩
 refine⟨⟨λn a d e=>(by rw[h0.1]at e;simp at e),I.g0.2.1,I.g0.2.2.1,λn hn=>(by rw[h0.2]at hn;cases hn),λn hn=>(by cases hn),I.g0.2.2.2.2.2⟩,I.gens,I.os,I.tk,I.base,I.pins,I.pinsB,I.pinsK,?_,R.few,λn o e=>?_,λn ad e=>?_,⟨λn a d e=>?_,λi j ad ad' x e1 e2 m1 m2=>?_⟩,λn ad e x hx=>?_,I.tups,I.rngs,λn hn=>(by cases hn),I.fz⟩;.exact((rwl (aLX ..) (rwl (List.length_range ..) rfl)):aJ.n=((List.range aJ.n).map _).length)
 .have hi:=R.none n o e;refine aLJ λaA=>e23 (R.obj n hi) λuW o' h1 h2 h3=>?_;rw[e]at h1;cases h1;exact e12 (I.objs _ _ h2) λad h4 h5=>aA ⟨ad,Gh.ren_get hi h4,h5.ren h3⟩
 .exact e02 (inv n ad e) λh1 Z=>e22 (R.obj n h1) λuW o' h2 Z=>⟨uW,h2⟩
 .exact e02 (inv n _ e) λZ h2=>I.apart.one _ a d h2
 .exact e02 (inv i _ e1) λa1 a2=>e02 (inv j _ e2) λb1 b2=>R.inj i j a1 b1 (I.apart.two _ _ _ _ x a2 b2 m1 m2)
 .exact e02 (inv n _ e) λZ a2=>I.own _ _ a2 x hx
theorem FR.ren{S:Sit}{l l₂:Loc}{h:Heap}{f:Nat->Nat}{m:Nat}(F:FR S l G h)(hφ:∀i,i<m->∃ad,G.φ[f i]? = some ad)(hl:∀i dB,nth l₂ i=some (some dB)->∃v,nth l i=some (some v)/\VN m f dB v):FR S l₂ (G.ren f m) h:=by
 have lo:∀a,Lo S.k S.P G a->Lo S.k S.P (G.ren f m) a:=λa q=>⟨q.1,q.2.1,λn ad e hx=>by
  refine e02 (Gh.ren_inv e) λh1 h2=>e11 (hφ n h1) λad' h3=>?_;replace h2:=(h3)▸h2;have:ad'=ad:=h2;subst this;exact q.2.2 _ _ h3 hx⟩
 exact e12 F.loc λg hg hg'=>⟨⟨g,hg,λx i dB h1 h2 h3=>e12 (hl i dB h3) λv h4 h5=>e12 (hg' x i v h1 h2 h4) λy h6 h7=>⟨y,h6,VR.ren h5 h7⟩⟩,λx i dB h1 h2 h3=>(e12 (hl i dB h3) λv h4 h5=>e23 (F.cell x i v h1 h2 h4) λc y h6 h7 h8=>bM c y h6 h7 (VR.ren h5 h8)),lo _ F.lo,λhc x hx=>(e23 (F.cellLo hc x hx) λc v h4 h5 h6=>bM c v h4 h5 (lo _ h6)),F.cellInj⟩
def Run(S:Sit)(stmts:List Stmt)(l:Loc)(σ:St)(v:V):Prop:=∀ ⦃G s⦄,Inv S.k S.P G σ s->FR S l G s.heap->
 wpAny S.k.M S.A (execs stmts S.env) (λf s'=>∃x G' σ',f=.ret x/\VR G' v x/\Inv S.k S.P G' σ' s') (λZ Z=>False) s
def uP(I:Nm)(S:Sit)(cs:List CS)(l:Loc)(σ:St)(v:V):Prop:=∀M stmts,(chk I M).b S.C stmts cs=true->Run S stmts l σ v
section
variable {I:Nm}{fi:Nat->FnI}{S:Sit}
theorem wT(pk:kA S.k I fi)(ok:S.OK)(hs:S.C.hs=false){c:CS}{rc:List CS}{l l':Loc}{σ σ':St}{v:V}(e:stepS S.k.ft S.k.it S.k.sup (S.k.ev n) c l σ=.ok .next l' σ')(R:uP I S rc l' σ' v):uP I S (c::rc) l σ v:=by
 intro M stmts h G s Iv F;refine e33 (aC3 h) λN st r fK h1 h2=>rwl fK ?_;have H:dL S.A G:=.inl (ok.handled hs);have g:=ES (n:=n) (S:=S) pk (λm Z=>FB pk n m (by assumption)) rfl ok h1 Iv F H;refine wpAny_execs_cons (wpAny_mono (g (by dsimp only;rw[e];intro q;cases q)) (λfl s' p=>?_) λx s' p=>?_);.refine e45 p λf' gF aG G' q1 q2 q3 q4 q5=>?_;dsimp only at q1;rw[e]at q1;cases q1;cases q5;exact R N r h2 q3 q4
 .refine e62 p λm gF aG G' a d q1 Z=>?_;dsimp only at q1;rw[e]at q1;cases q1
theorem NJ(pk:kA S.k I fi)(ok:S.OK)(hs:S.C.hs=false){c:CS}{rc:List CS}{l l':Loc}{σ σ':St}{v:V}(e:stepS S.k.ft S.k.it S.k.sup (S.k.ev n) c l σ=.ok (.ret v) l' σ'):uP I S (c::rc) l σ v:=by
 intro M stmts h G s Iv F;refine e33 (aC3 h) λN st r fK h1 h2=>rwl fK ?_;have H:dL S.A G:=.inl (ok.handled hs);have g:=ES (n:=n) (S:=S) pk (λm Z=>FB pk n m (by assumption)) rfl ok h1 Iv F H;refine wpAny_execs_cons (wpAny_mono (g (by dsimp only;rw[e];intro q;cases q)) (λfl s' p=>?_) λx s' p=>?_)
 .refine e45 p λf' gF aG G' q1 q2 q3 q4 q5=>?_;dsimp only at q1;rw[e]at q1;cases q1;refine aLJ λaA=>?_;cases q5 with
  |ret w=>refine aA ?_;exact⟨_,G',σ',rfl,w,q3⟩
 .refine e62 p λm gF aG G' a d q1 Z=>?_;dsimp only at q1;rw[e]at q1;cases q1
def blk(k:Kit)(n:Nat)(cs:List CS):Loc->St->RS:=List.rec (λl s=>.ok .next l s) (λc Z r l s=>dY r (stepS k.ft k.it k.sup (k.ev n) c l s)) cs
theorem wR{g:Loc->St->RS}{r:RS}{l':Loc}{σ':St}(h:dY g r=.ok .next l' σ'):∃l σ,r=.ok .next l σ/\g l σ=.ok .next l' σ':=by
 cases r with
 |ok f l s=>cases f with
  |next=>exact⟨l,s,rfl,h⟩
  |cont=>cases h
  |ret v=>cases h
 |exc e l s=>cases h
 |stuck=>cases h
theorem aDK(pk:kA S.k I fi)(ok:S.OK)(hs:S.C.hs=false){rc:List CS}{l':Loc}{σ':St}{v:V}(R:uP I S rc l' σ' v):∀{cs:List CS}{l:Loc}{σ:St},blk S.k n cs l σ=.ok .next l' σ'->uP I S (cs++rc) l σ v:=by
 intro mN;induction mN with
 |nil=>intro l;intro σ;intro e;cases e;exact R
 |cons c cs aQ=>intro l;intro σ;intro e;exact e22 (wR (show dY (blk S.k n cs) (stepS S.k.ft S.k.it S.k.sup (S.k.ev n) c l σ)=_ from e)) λgF aG h1 h2=>wT pk ok hs h1 (aQ h2)
theorem NK{cs:List CS}{l l₂:Loc}{σ aJ:St}{v:V}{f:Nat->Nat}(h0:S.k.G0.φ=[]/\S.k.G0.excs=[])(R:ReN f aJ σ)(hl:∀i dB,nth l₂ i=some (some dB)->∃v,nth l i=some (some v)/\VN aJ.n f dB v)(r:uP I S cs l₂ aJ v):uP I S cs l σ v:=by
 intro M stmts h G s Iv F;refine r M stmts h (Iv.ren h0 R) (F.ren (λi hi=>?_) hl);refine e23 (R.obj i hi) λuW o Z h2 Z=>?_;refine e12 (Iv.objs _ _ h2) λad h3 Z=>?_;exact⟨ad,h3⟩
theorem aDb{cs:List CS}{l:Loc}{σ:St}{v:V}{Q:Prop}(hq:∀G s,Inv S.k S.P G σ s->FR S l G s.heap->Q)(r:Q->uP I S cs l σ v):uP I S cs l σ v:=
 λM stmts h G s Iv F=>r (hq G s Iv F) M stmts h Iv F
end
theorem UV{k:Kit}{I:Nm}{fi:Nat->FnI}(pk:kA k I fi){f:Nat}(hf:f<k.T.nf)(hrk:(fi f).rank<=100)(ht:k.tk<=1){i:Nat}{elt:CE}{tg:Tg}{z:Int}{ifs:List CE}{rc:List CS}(hcode:(k.ft f).body=.asg (.n i) (.comp elt tg (.bi .range [.c (.int z)]) ifs)::rc){σ aG:St}{gF:Loc}{vs:List V}{xs:List PySem.Value}{v:V}(I0:Inv k.low [] G σ s)(hB:k.B.objs.size<=s.heap.objs.size)(hv:VRs G vs xs)(hlen:vs.length=(k.ft f).npar)(h1:stepS k.ft k.it k.sup (k.ev (n+3)) (.asg (.n i) (.comp elt tg (.bi .range [.c (.int z)]) ifs)) (app (iK some vs) (rF (Nat.sub (k.ft f).nloc (k.ft f).npar))) σ=.ok .next gF aG)(hrun:∀S':Sit,S'.k=k->S'.C=(fi f).cx false->S'.OK->uP I S' rc gF aG v):
 wpAny k.M callerA (call (.ref (fi f).a) xs) (λx s'=>∃G' σ',Inv k [] G' σ' s'/\VR G' v x) (λZ Z=>False) s:=by
 have fo:=pk.fn f hf;refine e31 fo.obj λoc od sl hobj=>?_;have KX:=pk.kit.frag.keeps I0.base;have hxs:xs.length=(k.ft f).npar:=by rw[<- hv.length];exact hlen
 generalize hg:fi f=fn at fo hrk hobj hrun|-;have hzip:(fn.par.zip xs).map (·.1)=fn.par:=by rw[List.map_fst_zip];rw[fo.npar,hxs];exact aLO _
 have hpar:∀x∈fn.par.zip xs,x.1∈fn.par:=λx hx=>by rw[<- hzip];exact List.mem_map.mpr ⟨x,hx,rfl⟩
 have hcellmem:∀x m,fn.fd.scope.names.lookup x=some .cell->((cellsFrom m fn.fd.scope.names []).lookup x).isSome=true:=λx m h=>yF _ _ _ _ (.inl (mem_of_lookup h));refine wpAny_call (codeAny_call_function (by decide) (KX _ _ hobj) rfl fo.co fo.gen fo.body (codeRec_of KX fo.code) ?_);refine rwl (fo.bind xs hxs ..) (rwl (fo.clo ..) ?_);have hkind:∀x∈fn.par.zip xs,fn.fd.scope.names.lookup x.1=some .local\/(fn.fd.scope.names.lookup x.1=some .cell/\((cellsFrom (s.heap.objs.size+1) fn.fd.scope.names []).lookup x.1).isSome=true):=λx hx=>by
  rcases fo.parK x.1 (hpar x hx) with q|q;.exact .inl q
  .exact .inr ⟨q,hcellmem _ _ q⟩
 refine wpAny_pure (wpAny_mono (wpAny_toks_of (n:=s.toks) (aLO _) (wpAny_newFunctionEnv_cells (Q:=λenv s'=>env=callEnvC fn.fd s.heap.objs.size fn.a/\
  InCallC s env.locals (bindL env.kindOf (fn.par.zip xs) λZ=>none) env.cells (bindC env.kindOf (fn.par.zip xs) λZ=>none) s') fo.kind hkind λenv he s' x=>⟨he,x⟩)) (λenv aO p=>?_) λZ Z p=>p.2)
 obtain⟨htk,aE,X⟩:=p;subst aE;refine⟨(pk.kit.nolimit.keeps I0.base).keeps X.toInCall.keep,codeAny_func ?_⟩
 let env:=callEnvC fn.fd s.heap.objs.size fn.a
 let S':Sit:={ k:=k,C:=fn.cx false,env:=env,fenv:=env,outer:=[],A:=callerA.deeper env,P:=[] }
 have ok':S'.OK:=by
  refine⟨rfl,fo.kind,fo.glob,fo.built,rfl,rfl,?_,.inl ⟨rfl,rfl,rfl⟩,λe he=>(by cases he),λZ=>rfl,⟨?_,?_⟩,hB,λq=>(by cases q),fo.ndup⟩;.refine(?_:env.scope.kind≠.module);rw[show env.scope.kind=fn.fd.scope.kind from rfl,fo.kind];decide
  .exact((aEq hrk):301+1+3*fn.rank<990)
  .exact((aEp hrk):4+3+20*fn.rank<9800)
 have fresh:∀a:Addr,s.heap.objs.size<=a->s.heap.get? a=none:=λa ha=>by
  cases q:s.heap.get? a with
  |none=>rfl
  |some o=>exact absurd (aL2 q) (Nat.not_lt.mpr ha)
 have lo':∀a:Addr,s.heap.objs.size<=a->Lo k [] G a:=λa ha=>by
  refine⟨?_,λp hp=>(by cases hp),λm ad e hx=>?_⟩
  .cases q:k.B.get? a with
   |none=>rfl
   |some o=>have:=I0.base _ _ q;rw[fresh a ha]at this;cases this
  .obtain⟨_,_,o,q⟩:=I0.own m ad e a hx;rw[fresh a ha]at q;cases q
 refine e21 X.toInCall.same λeW aDp rB=>?_;have J:Inv k.low [] G σ aO:=I0.keeps (by rw[rB]) (by rw[rB]) X.toInCall.keep htk;have zip_mem:∀(i:Nat) x y,fn.par[i]? = some x->xs[i]? = some y->(x,y)∈fn.par.zip xs:=λi x y h1 h2=>by refine List.mem_iff_getElem?.mpr ⟨i,?_⟩;rw[List.getElem?_zip_eq_some];exact⟨h1,h2⟩
 have parOf:∀x i u,(x,i)∈fn.names->nth (app (iK some vs) (rF (Nat.sub (k.ft f).nloc (k.ft f).npar))) i=some (some u)->∃y,(x,y)∈fn.par.zip xs/\VR G u y:=λx i u h1 h2=>by
  have h3:=wM h2;refine e12 (hv.at h3) λy h4 h5=>?_;have hi:i<fn.par.length:=by rw[fo.npar,<- hxs];exact(List.getElem?_eq_some_iff.mp h4).1
  have h6:fn.par[i]? = some fn.par[i]:=aLN hi;have h7:=gS fo.ndup.2 (fo.mem i _ h6) h1;exact⟨y,zip_mem i x y (h7▸h6) h4,h5⟩
 have hnd:((fn.par.zip xs).map (·.1)).Nodup:=by rw[hzip];exact fo.parN
 have F':FR S' (app (iK some vs) (rF (Nat.sub (k.ft f).nloc (k.ft f).npar))) G aO.heap:=by
  refine⟨⟨_,X.toInCall.ns,λx i u h1 h2 h3=>?_⟩,λx i u h1 h2 h3=>?_,lo' _ (aLO _),λZ x hx=>?_,λZ x y cc h1 h2 h3 h4=>?_⟩;.exact e12 (parOf x i u h1 h3) λy h4 h5=>⟨y,yG h2 _ _ hnd (.inl h4),h5⟩
  .refine e12 (parOf x i u h1 h3) λy h4 h5=>?_;obtain⟨cc,hcc⟩:=(Option.isSome_iff_exists.mp (hcellmem x (s.heap.objs.size+1) h2));have h6:=X.cell x cc hcc;rw[yH (v:=y) (λq=>by have q':fn.fd.scope.names.lookup x=some .local:=q;rw[show fn.fd.scope.names.lookup x=some .cell from h2]at q';cases q') _ _ hnd (.inl h4)]at h6;exact bM cc y hcc h6 h5
  .obtain⟨cc,hcc⟩:=(Option.isSome_iff_exists.mp (hcellmem x (s.heap.objs.size+1) hx));have h6:=X.cell x cc hcc;have h7:=X.above x cc (mem_of_lookup hcc);exact bM cc _ hcc h6 (lo' cc (aL3 h7))
  .exact name_of_addr X.apart (mem_of_lookup h3) (mem_of_lookup h4)
 refine aLJ λaA=>?_;have H':dL S'.A G:=.inl rfl;refine e11 (pk.body f hf false (.inl rfl)) λN hN=>?_;rw[hcode,hg]at hN;refine e33 (aC3 hN) λM st r hbody c1 c2=>?_;refine aA ?_;refine rwl (hbody ..) ?_;have first:=VK (n:=n) (S:=S') pk (λm hm=>FB pk (n+2) m hm) rfl ok' ht c1 J F' H'
 refine wpAny_execs_cons (wpAny_mono (first (by rw[h1];intro q;cases q)) (λfl bL p=>?_) λx bL p=>?_);.refine e45 p λf' l' σ' G' q1 q2 q3 q4 q5=>?_;rw[h1]at q1;cases q1;cases q5;refine wpAny_mono (hrun S' rfl rfl ok' M r c2 q3 q4) (λfl bU p=>?_) λZ Z p=>p.elim;refine e33 p λx G'' σ'' fK w q6=>?_;refine rwl fK ?_;exact SV G'' σ'' q6 w
 .refine e62 p λm l' σ' G' a d q1 Z=>?_;rw[h1]at q1;cases q1
end Mine.Internal
end
noncomputable section
open PySem PySem.W PyProof.Rows
namespace Mine.Internal
variable {α:Type}{n:Nat}{l:Loc}
noncomputable abbrev sq1:List Nat:=[107,51,47,52,47,52,47,80,112,50,47,51,75,32,119,32,45,32,98,51,32,48,32,50]
noncomputable abbrev sq2:List Nat:=[107,51,47,52,47,52,47,49,80,50,47,51,75,32,98,32,45,32,45,32,51,32,49,55]
noncomputable abbrev sq3:List Nat:=[107,51,47,52,47,52,47,49,112,49,80,47,51,75,32,119,32,45,32,98,51,32,48,32,50]
noncomputable abbrev sq4:List Nat:=[107,51,47,52,47,52,47,49,80,50,47,75,75,50,32,119,32,45,32,45,32,48,32,49]
noncomputable abbrev sq5:List Nat:=[107,51,47,52,47,52,47,49,80,50,47,51,75,32,98,32,45,32,45,32,51,32,48]
noncomputable abbrev sq6:List Nat:=[107,51,47,52,47,52,47,52,47,82,50,75,32,119,32,45,32,45,32,48,32,49]
noncomputable abbrev sq7:List Nat:=[80,50,107,47,52,47,52,47,52,47,75,51,32,119,32,45,32,45,32,48,32,49]
noncomputable abbrev sq8:List Nat:=[107,51,47,52,47,52,47,49,80,50,47,51,75,32,98,32,45,32,45,32,51]
noncomputable abbrev sq9:List Nat:=[107,51,47,52,47,52,47,49,112,49,80,47,51,75,32,119,32,45,32,45,32,48,32,50]
noncomputable abbrev sq0:List Nat:=[97,32,116,97,103,32,116,111,108,100,32,116,119,105,99,101]
abbrev E(n:Nat):Ev:=ev aU pX dF kK n
abbrev stp(n:Nat)(c:CS)(l:Loc)(σ:St):RS:=stepS aU dF kK (E n) c l σ
def MD(n:Nat)(cs:List CS):Loc->St->RS:=List.rec (λl s=>.ok .next l s) (λc Z r l s=>dY r (stp n c l s)) cs
def iX(i:Nat):CS:=(nth DQ i).getD .cont
def pP(i n:Nat):List CS:=(DQ.drop i).take n
def l0(vs:List V):Loc:=app (iK some [.frz vs]) (rF 26)
noncomputable def σ0:St:=⟨.nil,0⟩
noncomputable def σn(a0 a1 a2 a3 a4 a5:Int):St:=⟨.node (some (.list [.int a0,.int a1,.int a2,.int a3,.int a4,.int a5])) .nil .nil,1⟩
theorem aHB(a0 a1 a2 a3 a4 a5:Int)(r:List Int):stp 20 (iX 0) (l0 ((a0::a1::a2::a3::a4::a5::r).map V.int)) σ0=.ok .next (bZ (l0 ((a0::a1::a2::a3::a4::a5::r).map V.int)) 1 (some (.ref 0))) (σn a0 a1 a2 a3 a4 a5):=by kernel_rfl
theorem aHH:stp 20 (iX 0) (l0 []) σ0=.ok .next (bZ (l0 []) 1 (some (.ref 0))) (σn 0 0 0 0 0 0):=by kernel_rfl
theorem aHE(a0 a1 a2:Int):stp 20 (iX 0) (l0 ([a0,a1,a2].map V.int)) σ0=.ok .next (bZ (l0 ([a0,a1,a2].map V.int)) 1 (some (.ref 0))) (σn a0 a1 a2 0 0 0):=by kernel_rfl
theorem MY(vs:List V)(a0 a1 a2 a3 a4 a5:Int):stp 20 (iX 1) (bZ (l0 vs) 1 (some (.ref 0))) (σn a0 a1 a2 a3 a4 a5)=.ok .next (bZ (bZ (l0 vs) 1 (some (.ref 0))) 2 (some (mkI (Int.fmod a0 4)))) (σn a0 a1 a2 a3 a4 a5):=by kernel_rfl
noncomputable def nxt(r:RS):Loc×St:=match r with|.ok .next l s=>(l,s)|_=>([],⟨.nil,0⟩)
noncomputable def okN(r:RS):Bool:=match r with|.ok .next _ _=>true|_=>false
section
variable {n:Nat}{l:Loc}{s:St}
theorem x_c(v:V):(E (n+1)).e (.c v) l s=.ok v s:=rfl
theorem aT(i:Nat):(E (n+1)).e (.loc i) l s=lB l s i:=rfl
theorem wH(i:Nat):(E (n+1)).e (.glo i) l s=.ok (pX i) s:=rfl
theorem jV(op:BO)(a b:CE):(E (n+1)).e (.bin op a b) l s=((E n).e a l s).bind λa s=>((E n).e b l s).bind λb s=>gA op a b s:=rfl
theorem zZ(es:List CE):(E (n+1)).e (.and es) l s=mD (E n) l es s:=rfl
theorem aJe(es:List CE):(E (n+1)).e (.or es) l s=orE (E n) l es s:=rfl
theorem EC(ih:Ev)(e:CE):mD ih l [e] s=ih.e e l s:=rfl
theorem sD(ih:Ev)(e f:CE)(r:List CE):mD ih l (e::f::r) s=(ih.e e l s).bind (DV (mD ih l (f::r))):=rfl
theorem aDg(ih:Ev)(e:CE):orE ih l [e] s=ih.e e l s:=rfl
theorem aDf(ih:Ev)(e f:CE)(r:List CE):orE ih l (e::f::r) s=(ih.e e l s).bind (orK (orE ih l (f::r))):=rfl
theorem yM(k:St->RE V):DV k (.bool true) s=k s:=rfl
theorem rT(k:St->RE V):DV k (.bool false) s=.ok (.bool false) s:=rfl
theorem aBB(k:St->RE V):orK k (.bool true) s=.ok (.bool true) s:=rfl
theorem aBC(k:St->RE V):orK k (.bool false) s=k s:=rfl
theorem eP(op:CO)(a b:CE):(E (n+1)).e (.cmp op a b) l s=((E n).e a l s).bind λa s=>((E n).e b l s).bind λb s=>okB s (cT s op a b):=rfl
theorem YL(t a b:CE):(E (n+1)).e (.ife t a b) l s=(yO (E n) l t s).bind λx s=>sel x ((E n).e a l s) ((E n).e b l s):=rfl
theorem fJ(f:Nat)(args:List CE):(E (n+1)).e (.call f args) l s=(evs (E n) l args s).bind (aR (E n) (aU f)):=rfl
theorem aDh(c:Nat)(args:List CE):(E (n+1)).e (.new c args) l s=(evs (E n) l args s).bind λvs s=>s.new (.inst c []) λk s=>(aR (E n) (aU (dF c)) (.ref k::vs) s).bind λv s=>sel (iF v) (.ok (.ref k) s) .stuck:=rfl
theorem aBL(b:BI)(args:List CE):(E (n+1)).e (.bi b args) l s=(evs (E n) l args s).bind (bi b):=rfl
theorem gD(m:ME)(o:CE)(args:List CE):(E (n+1)).e (.meth m o args) l s=((E n).e o l s).bind λo s=>sel (iJ m o s) ((evs (E n) l args s).bind λvs s=>meth m o vs s) .stuck:=rfl
theorem jH(o:CE)(a:Nat):(E (n+1)).e (.attr o a) l s=((E n).e o l s).bind λo s=>ofO s (tQ s o a):=rfl
theorem jU(o i:CE):(E (n+1)).e (.sub o i) l s=((E n).e o l s).bind λo s=>((E n).e i l s).bind λi s=>ofO s (item s o i):=rfl
theorem UM(o lo hi:CE):(E (n+1)).e (.slice o lo hi) l s=((E n).e o l s).bind λo s=>((E n).e lo l s).bind λlo s=>((E n).e hi l s).bind λhi s=>kN s o lo hi:=rfl
theorem HE(es:List CE):(E (n+1)).e (.lst es) l s=(evs (E n) l es s).bind λvs s=>cZ s vs:=rfl
theorem fS(es:List CE):(E (n+1)).e (.tup es) l s=(evs (E n) l es s).bind λvs s=>sel (Nat.blt (bC vs) lim) (.ok (.tup vs) s) .stuck:=rfl
theorem UP:(E (n+1)).e .dict0 l s=s.new (.dict []) λn s=>.ok (.ref n) s:=rfl
theorem rZ(elt:CE)(tg:Tg)(src:CE)(ifs:List CE):(E (n+1)).e (.comp elt tg src ifs) l s=sel (gI l tg) (((E n).e src l s).bind λx s=>(gM (E n) l elt tg ifs x s).noExc.bind λxs s=>cZ s xs) .stuck:=rfl
theorem bH(ih:Ev):evs ih l [] s=.ok [] s:=rfl
theorem cJ(ih:Ev)(e:CE)(r:List CE):evs ih l (e::r) s=(ih.e e l s).bind λv s=>(evs ih l r s).bind λvs s=>.ok (v::vs) s:=rfl
theorem nG(ih:Ev):iP ih l [] s=.ok true s:=rfl
theorem HD(ih:Ev)(e:CE)(r:List CE):iP ih l (e::r) s=(yO ih l e s).bind λb s=>sel b (iP ih l r s) (.ok false s):=rfl
theorem eL(ih:Ev)(e:CE):yO ih l e s=(ih.e e l s).bind λv s=>ofO s (gL s v):=rfl
theorem aN(i:Nat):lB l s i=eZ (nth l i) λx=>eZ x λv=>.ok v s:=rfl
theorem aM{α β:Type}(a:α)(k:α->RE β):eZ (some a) k=k a:=rfl
theorem cP(a:α)(k:α->RS):eM (some a) k=k a:=rfl
theorem bG(a:α):ofO s (some a)=.ok a s:=rfl
theorem aK(a:α)(r:List α):nth (a::r) 0=some a:=rfl
theorem aW(a:α)(r:List α)(i:Nat):nth (a::r) (i+1)=nth r i:=rfl
theorem bY(a b:α)(r:List α):bZ (a::r) 0 b=b::r:=rfl
theorem dE(a b:α)(r:List α)(i:Nat):bZ (a::r) (i+1) b=a::bZ r i b:=rfl
theorem cX(b:Bool):okB s (some b)=.ok (.bool b) s:=by cases b<;>rfl
theorem eX(b:Bool):gL s (.bool b)=some b:=rfl
theorem aL(a:α)(f:α->St->RS)(l':Loc):(RE.ok a s).bs l' f=f a s:=rfl
theorem HI(e:Nat)(f:α->St->RS):(RE.exc e s:RE α).bs l f=.exc e l s:=rfl
theorem lN(a:α):(RE.ok a s).noExc=.ok a s:=rfl
theorem gE:(E (n+1)).b [] l s=.ok .next l s:=rfl
theorem x_b(c:CS)(r:List CS):(E (n+1)).b (c::r) l s=dY ((E n).b r) (stp n c l s):=rfl
theorem aZ(k:Loc->St->RS):dY k (.ok .next l s)=k l s:=rfl
theorem aJd(k:Loc->St->RS):dY k (.ok .cont l s)=.ok .cont l s:=rfl
theorem mL(k:Loc->St->RS)(v:V):dY k (.ok (.ret v) l s)=.ok (.ret v) l s:=rfl
theorem MS(k:Loc->St->RS)(e:Nat):dY k (.exc e l s)=.exc e l s:=rfl
theorem yK(k:Loc->St->RS):eG k (.ok .next l s)=k l s:=rfl
theorem aI4(k:Loc->St->RS):eG k (.ok .cont l s)=k l s:=rfl
theorem aI3(k:Loc->St->RS)(v:V):eG k (.ok (.ret v) l s)=.ok (.ret v) l s:=rfl
theorem aI2(k:Loc->St->RS)(e:Nat):eG k (.exc e l s)=.exc e l s:=rfl
theorem eQ(t:Tg)(e:CE):stp n (.asg t e) l s=((E n).e e l s).bs l λv s=>eM (put l t v) λl=>.ok .next l s:=rfl
theorem MR(o i e:CE):stp n (.setI o i e) l s=((E n).e e l s).bs l λv s=>((E n).e o l s).bs l λo s=>((E n).e i l s).bs l λi s=>fB l (setItem s o i v):=rfl
theorem mC(e:CE):stp n (.ex e) l s=((E n).e e l s).bs l λv s=>sel (iF v) (.ok .next l s) .stuck:=rfl
theorem nH(e:CE):stp n (.ret e) l s=((E n).e e l s).bs l λv s=>.ok (.ret v) l s:=rfl
theorem pD(t:CE)(a b:List CS):stp n (.ifs t a b) l s=(yO (E n) l t s).bs l λx s=>sel x ((E n).b a l s) ((E n).b b l s):=rfl
theorem HF(t:Tg)(src:CE)(b:List CS):stp n (.for t src b) l s=((E n).e src l s).bs l λx s=>vE (E n) t b x l s:=rfl
theorem YJ(b:List CS)(c:Nat)(nm:Option Nat)(h:List CS):stp n (.try b c nm h) l s=RS.rec .ok (gG kK (E n) c nm h) .stuck ((E n).b b l s):=rfl
theorem cR(i:Nat)(v:V):put l (.n i) v=some (bZ l i (some v)):=rfl
theorem rY(i j:Nat)(v w:V):put l (.t [i,j]) (.tup [v,w])=some (bZ (bZ l i (some v)) j (some w)):=rfl
theorem iB(s':St):fB l (some s')=.ok .next l s':=rfl
theorem dM:iF .none=true:=rfl
theorem MT(v:V):(RS.ok (.ret v) l s).out=.ok v s:=rfl
theorem DZ:(RS.ok .next l s).out=.ok .none s:=rfl
theorem aBA(e:Nat):(RS.exc e l s).out=.exc e s:=rfl
theorem EA(o:O)(k:Nat->St->RE α)(h:s.n<1000):s.new o k=k s.n ⟨s.h.upd o 10 s.n,s.n+1⟩:=by rw[St.new_eq,aC.mpr h];rfl
def aV(s:St)(o:O):St:=⟨s.h.upd o 10 s.n,s.n+1⟩
theorem fI(r:List V)(h:s.n<1000)(hl:r.length<100000):cZ s r=.ok (.ref s.n) (aV s (.list r)):=by unfold cZ;rw[aD,show Nat.blt r.length lim=true from aC.mpr hl,aI,EA _ _ h];rfl
theorem bN(o:O):(aV s o).n=s.n+1:=rfl
theorem aY(o:O)(h:s.n<1000)(j:Nat):(aV s o).h.get j=if j=s.n then some o else s.h.get j:=by show(s.h.upd o 10 s.n).get j=_;exact Tr.get_upd o 10 s.h s.n j (IA h)
theorem aS(d:Nat)(o:O)(h:d<1000)(j:Nat):(bE s d o).h.get j=if j=d then some o else s.h.get j:=by show(s.h.upd o 10 d).get j=_;exact Tr.get_upd o 10 s.h d j (IA h)
theorem aJu(d:Nat)(o:O):(bE s d o).n=s.n:=rfl
theorem pA(k:Nat)(r:List V)(hl:r.length<100000):iR s k r=.ok .none (bE s k (.list r)):=by unfold iR;rw[aD,show Nat.blt r.length lim=true from aC.mpr hl];rfl
theorem bK{k:Nat}{z:α}{f:List V->α}{r:List V}(h:s.h.get k=some (.list r)):aP s k z f=f r:=by unfold aP;rw[h];first|done|rfl
theorem yJ{k:Nat}{z:α}{f:List (List Nat×V)->α}{r:List (List Nat×V)}(h:s.h.get k=some (.dict r)):fT s k z f=f r:=by unfold fT;rw[h];first|done|rfl
theorem jG{k:Nat}{r:List V}(m:ME)(h:s.h.get k=some (.list r)):iJ m (.ref k) s=ME.rec true true true false false false false false false m:=by unfold iJ;dsimp only[vR];rw[h];first|done|rfl
theorem aBH{k:Nat}{r:List (List Nat×V)}(m:ME)(h:s.h.get k=some (.dict r)):iJ m (.ref k) s=ME.rec false false false false false false false false true m:=by unfold iJ;dsimp only[vR];rw[h];first|done|rfl
theorem kE(k:Nat)(v:V):meth .append (.ref k) [v] s=aP s k .stuck λl=>iR s k (app l [v]):=rfl
theorem aDj(k:Nat)(x:List Nat)(d:V):meth .get (.ref k) [.str x,d] s=fT s k .stuck λkvs=>.ok (Option.rec d (λv=>v) (cN kvs x)) s:=rfl
end
set_option tactic.hygienic true in
theorem NA{o:O}(f:Nat):∀(t:Tr) (i:Nat),t.get i=some o->t.upd o f i=t:=by
 induction f with
 |zero=>intro t i Z;rfl
 |succ f ih=>
  intro t i h;cases t with
  |nil=>cases h
  |node v l r=>
   rw[Tr.get_node]at h;rw[Tr.upd_node];by_cases q:i=0;.rw[if_pos q]at h|-;rw[h]
   .rw[if_neg q]at h|-;by_cases q2:i % 2=1;.rw[if_pos q2]at h|-;rw[ih _ _ h]
    .rw[if_neg q2]at h|-;rw[ih _ _ h]
theorem iQ{s:St}{o:O}(h:s.h.get n=some o):bE s n o=s:=by unfold bE;rw[NA _ _ _ h]
theorem SM(ih:Ev)(tg:Tg)(b:List CS)(n k i:Nat)(l:Loc)(s:St):fO ih tg b n (k+1) i l s=aP s n .stuck λls=>eM (nth ls i) λv=>eM (put l tg v) λl=>eG (fO ih tg b n k (i+1)) (ih.b b l s):=gU ih tg b n k i l s
noncomputable def kF:List CS:=[(.ifs (.cmp .eq (.sub (.loc 3) (.c (.int 0))) (.loc 1)) [(.ret (.sub (.loc 3) (.c (.int 1))))] [])]
theorem UT(m:Nat)(t miss x:V)(name a:List Nat)(r:List V)(s:St):
 (E (m+8)).b kF [some t,some (.str name),some miss,some (.tup (.str a::x::r))] s =
  sel (eqS a name) (.ok (.ret x) [some t,some (.str name),some miss,some (.tup (.str a::x::r))] s) (.ok .next [some t,some (.str name),some miss,some (.tup (.str a::x::r))] s):=by
 have e:(E (m+8)).b kF [some t,some (.str name),some miss,some (.tup (.str a::x::r))] s=dY (λl s=>.ok .next l s) (((okB s (some (eqS a name))).bind tr).bs [some t,some (.str name),some miss,some (.tup (.str a::x::r))] λy s=>
  sel y (.ok (.ret x) [some t,some (.str name),some miss,some (.tup (.str a::x::r))] s) (.ok .next [some t,some (.str name),some miss,some (.tup (.str a::x::r))] s)):=by kernel_rfl
 refine rwl (e ..) ?_;cases eqS a name<;>rfl
abbrev Tag:=List Nat×V×List V
variable {ts:List Tag}
noncomputable def Tag.v(t:Tag):V:=.tup (.str t.1::t.2.1::t.2.2)
noncomputable def aB(ts:List Tag):List V:=ts.map Tag.v
noncomputable def bW(name:List Nat):List Tag->Option Tag
 | []=>none
 |t::ts=>if t.1=name then some t else bW name ts
theorem fW{i:Nat}{t:Tag}(h:ts[i]? = some t):nth (aB ts) i=some t.v:=by rw[fA];unfold aB;rw[aL8,h];rfl
theorem fQ{l:List α}{i:Nat}(h:i<l.length):l.drop i=l[i]::l.drop (i+1):=List.drop_eq_getElem_cons h
theorem UR(m t:Nat)(tv miss:V)(name:List Nat)(ts:List Tag)(s:St)(h:s.h.get t=some (.list (aB ts))):∀(k i:Nat) (w:Option V),i+k=ts.length->
 ∃l,fO (E (m+8)) (.n 3) kF t k i [some tv,some (.str name),some miss,w] s=(match bW name (ts.drop i) with|some q=>.ok (.ret q.2.1) l s|none=>.ok .next l s)/\nth l 2=some (some miss)/\l.length=4:=by
 intro x9;induction x9 with
 |zero=>
  intro i w hk;refine⟨[some tv,some (.str name),some miss,w],?_,rfl,rfl⟩;have hi:i=ts.length:=OQ hk;refine rwl (aL6 (qZ hk) ..) (rwl (fM ..) ?_);unfold aP;refine rwl (h ..) ?_;have:Nat.beq (bC (aB ts)) i=true:=by rw[aD];unfold aB;rw[aLX,hi];exact Nat.beq_refl _
  refine(?_:sel (Nat.beq (bC (aB ts)) i) _ _=_);rw[this];rfl
 |succ k aQ=>
  intro i w hk;have hi:i<ts.length:=uY hk;refine rwl (fQ hi ..) (aLJ λaA=>?_);obtain⟨⟨a,x,r⟩,hq⟩:∃q,ts[i]=q:=⟨_,rfl⟩;refine aA (rwl (hq ..) ?_);have hn:nth (aB ts) i=some (.tup (.str a::x::r)):=fW (t:=(a,x,r)) (by rw[aLN hi,hq]);have e:fO (E (m+8)) (.n 3) kF t (k+1) i [some tv,some (.str name),some miss,w] s =
   eG (fO (E (m+8)) (.n 3) kF t k (i+1)) ((E (m+8)).b kF [some tv,some (.str name),some miss,some (.tup (.str a::x::r))] s):=by
   refine rwl (gU ..) ?_;unfold aP;rw[h];refine(?_:eM (nth (aB ts) i) _=_);rw[hn];rfl
  refine rwl (e ..) (rwl (UT ..) (rwl (bQ ..) ?_));by_cases q:a=name;.refine⟨[some tv,some (.str name),some miss,some (.tup (.str a::x::r))],rwl (decide_eq_true q ..) (?_:RS.ok (.ret x) _ s=(match bW name ((a,x,r)::_) with|some q=>_|none=>_)),rfl,rfl⟩;dsimp only[bW];exact rwl (if_pos q ..) rfl
  .refine e13 (aQ (i+1) (some (.tup (.str a::x::r))) (yX hk)) λl h1 h2 h3=>⟨l,rwl (decide_eq_false q ..) ((rwl (h1 ..) ?_):fO (E (m+8)) (.n 3) kF t k (i+1) [some tv,some (.str name),some miss,some (.tup (.str a::x::r))] s=_),h2,h3⟩;rw[show bW name ((a,x,r)::ts.drop (i+1))=bW name (ts.drop (i+1)) by rw[bW,if_neg q]]
theorem iO{s:St}{z:α}{k:List V->α}{ls:List V}(h:s.h.get n=some (.list ls)):aP s n z k=k ls:=by unfold aP;rw[h];first|done|rfl
theorem US(m t:Nat)(name:List Nat)(miss:V)(ts:List Tag)(s:St)(h:s.h.get t=some (.list (aB ts))):
 aR (E (m+13)) (aU 74) [.ref t,.str name,miss] s=.ok ((bW name ts).elim miss (·.2.1)) s:=by
 have e:aR (E (m+13)) (aU 74) [.ref t,.str name,miss] s=(dY ((E (m+12)).b [.ret (.loc 2)]) (aP s t .stuck λls=>fL ls λls=>
  fO (E (m+12)) (.n 3) kF t (bC ls) 0 [some (.ref t),some (.str name),some miss,none] (bE s t (.list ls)))).out:=by kernel_rfl
 refine rwl (e ..) (rwl (iO h ..) (rwl (oR ..) (rwl (iQ h ..) ?_)));refine e13 (UR (m+4) t (.ref t) miss name ts s h (bC (aB ts)) 0 none (by rw[aD];unfold aB;simp)) λl h1 h2 h3=>?_;rw[show m+12=m+4+8 by exact ZV,h1,List.drop_zero];cases bW name ts with
 |some q=>rfl
 |none=>
  refine(?_:((E (m+4+8)).b [.ret (.loc 2)] l s).out=_);rcases l with _|⟨x0,_|⟨x1,_|⟨x2,l⟩⟩⟩;.exact False.elim (by cases h2)
  .cases h2
  .cases h2
  .have:x2=some miss:=by cases h2;rfl
   refine aLJ λaA=>?_;subst this;have e2:((E (m+4+8)).b [.ret (.loc 2)] (x0::x1::some miss::l) s).out=.ok miss s:=by kernel_rfl
   refine aA ?_;rw[e2];rfl
noncomputable def kH:List CS:=[(.ifs (.cmp .eq (.sub (.loc 2) (.c (.int 0))) (.loc 1)) [(.ret (.loc 2))] [])]
theorem UY(m:Nat)(t x:V)(name a:List Nat)(r:List V)(s:St):
 (E (m+8)).b kH [some t,some (.str name),some (.tup (.str a::x::r))] s =
  sel (eqS a name) (.ok (.ret (.tup (.str a::x::r))) [some t,some (.str name),some (.tup (.str a::x::r))] s) (.ok .next [some t,some (.str name),some (.tup (.str a::x::r))] s):=by
 have e:(E (m+8)).b kH [some t,some (.str name),some (.tup (.str a::x::r))] s=dY (λl s=>.ok .next l s) (((okB s (some (eqS a name))).bind tr).bs [some t,some (.str name),some (.tup (.str a::x::r))] λy s=>
  sel y (.ok (.ret (.tup (.str a::x::r))) [some t,some (.str name),some (.tup (.str a::x::r))] s) (.ok .next [some t,some (.str name),some (.tup (.str a::x::r))] s)):=by kernel_rfl
 refine rwl (e ..) ?_;cases eqS a name<;>rfl
theorem UX(m t:Nat)(tv:V)(name:List Nat)(ts:List Tag)(s:St)(h:s.h.get t=some (.list (aB ts))):∀(k i:Nat) (w:Option V),i+k=ts.length->
 ∃l,fO (E (m+8)) (.n 2) kH t k i [some tv,some (.str name),w] s=(match bW name (ts.drop i) with|some q=>.ok (.ret q.v) l s|none=>.ok .next l s):=by
 intro x9;induction x9 with
 |zero=>
  intro i w hk;refine⟨[some tv,some (.str name),w],?_⟩;have hi:i=ts.length:=OQ hk;refine rwl (aL6 (qZ hk) ..) (rwl (fM ..) ?_);dsimp only[aP];refine rwl (h ..) ?_;have:Nat.beq (bC (aB ts)) i=true:=by rw[aD];unfold aB;rw[aLX,hi];exact Nat.beq_refl _
  refine(?_:sel (Nat.beq (bC (aB ts)) i) _ _=_);rw[this];rfl
 |succ k aQ=>
  intro i w hk;have hi:i<ts.length:=uY hk;refine rwl (fQ hi ..) (aLJ λaA=>?_);obtain⟨⟨a,x,r⟩,hq⟩:∃q,ts[i]=q:=⟨_,rfl⟩;refine aA (rwl (hq ..) ?_);have hn:nth (aB ts) i=some (.tup (.str a::x::r)):=fW (t:=(a,x,r)) (by rw[aLN hi,hq]);have e:fO (E (m+8)) (.n 2) kH t (k+1) i [some tv,some (.str name),w] s =
   eG (fO (E (m+8)) (.n 2) kH t k (i+1)) ((E (m+8)).b kH [some tv,some (.str name),some (.tup (.str a::x::r))] s):=by
   refine rwl (gU ..) ?_;unfold aP;rw[h];refine(?_:eM (nth (aB ts) i) _=_);rw[hn];rfl
  refine rwl (e ..) (rwl (UY ..) (rwl (bQ ..) ?_));by_cases q:a=name;.refine⟨[some tv,some (.str name),some (.tup (.str a::x::r))],rwl (decide_eq_true q ..) ?_⟩;dsimp only[bW];rw[if_pos q];rfl
  .refine e11 (aQ (i+1) (some (.tup (.str a::x::r))) (yX hk)) λl h1=>⟨l,rwl (decide_eq_false q ..) ((rwl (h1 ..) ?_):fO (E (m+8)) (.n 2) kH t k (i+1) [some tv,some (.str name),some (.tup (.str a::x::r))] s=_)⟩;rw[show bW name ((a,x,r)::ts.drop (i+1))=bW name (ts.drop (i+1)) by rw[bW,if_neg q]]
theorem HM(m t:Nat)(name:List Nat)(ts:List Tag)(s:St)(h:s.h.get t=some (.list (aB ts))):
 aR (E (m+13)) (aU 69) [.ref t,.str name] s=.ok ((bW name ts).elim .none Tag.v) s:=by
 have e:aR (E (m+13)) (aU 69) [.ref t,.str name] s=(dY ((E (m+12)).b [.ret (.c .none)]) (aP s t .stuck λls=>fL ls λls=>
  fO (E (m+12)) (.n 2) kH t (bC ls) 0 [some (.ref t),some (.str name),none] (bE s t (.list ls)))).out:=by kernel_rfl
 refine rwl (e ..) (rwl (iO h ..) (rwl (oR ..) (rwl (iQ h ..) ?_)));obtain⟨l,h1⟩:=(UX (m+4) t (.ref t) name ts s h (bC (aB ts)) 0 none (by rw[aD];unfold aB;simp));rw[show m+12=m+4+8 by exact ZV,h1,List.drop_zero];cases bW name ts with
 |some q=>rfl
 |none=>rfl
theorem NL(n:Nat):∀a:Nat,sR 1 n (.ofNat a)=(List.range' a n).map λj=>V.int (.ofNat j):=by
 induction n with
 |zero=>intro a;rfl
 |succ n ih=>intro a;refine((rwl (cF ..) (rwl (show Int.add (.ofNat a) 1=.ofNat (a+1) from rfl ..) (rwl (ih ..) ?_))):mkI (.ofNat a)::sR 1 n (Int.add (.ofNat a) 1)=_);rfl
theorem wV(s:St)(n:Nat)(hn:n<100000):items s (.rng 0 (.ofNat n) 1)=some ((List.range n).map λj=>V.int (.ofNat j)):=by
 have h1:pH 0 (.ofNat n) 1=some n:=by
  unfold pH;refine rwl (eO ..) (rwl (decide_eq_true rfl ..) ((rwl (pO ..) ?_):some (sel (ltB 0 (.ofNat n)) (Int.toNat (Int.sub (.ofNat n) 0)) 0)=_));by_cases z:(0:Int) < .ofNat n;.rw[decide_eq_true z];show some (Int.toNat (Int.ofNat n-0))=_;simp
  .refine rwl (decide_eq_false z ..) ?_;have:n=0:=by simp at z;exact z
   subst this;rfl
 refine((rwl (h1 ..) ?_):sel (Nat.blt (Int.natAbs 0) 1000000) (sel (Nat.blt (Int.natAbs (.ofNat n)) 1000000) (Option.rec none (λn=>sel (Nat.blt n lim) (some (sR 1 n 0)) none) (pH 0 (.ofNat n) 1)) none) none=_);have b1:Nat.blt (Int.natAbs 0) 1000000=true:=aC.mpr (by decide);have b2:Nat.blt (Int.natAbs (.ofNat n)) 1000000=true:=aC.mpr (by simp;exact aEL hn);have b3:Nat.blt n lim=true:=aC.mpr hn;exact rwl (b1 ..) (rwl (b2 ..) ((rwl (b3 ..) ((rwl (NL ..) (rwl (List.range_eq_range' ..) rfl)):some (sR 1 n (.ofNat 0))=_)):sel (Nat.blt n lim) (some (sR 1 n 0)) none=_))
noncomputable def fC:CS:=.raise 5 [(.neg (.c (.int 1))),(.c (.str sq0))]
noncomputable def uC:List CS:=[(.ifs (.cmp .eq (.sub (.sub (.loc 0) (.loc 2)) (.c (.int 0))) (.sub (.sub (.loc 0) (.loc 1)) (.c (.int 0)))) [fC] [])]
noncomputable def vJ:List CS:=[(.for (.n 2) (.bi .range [(.loc 1)]) uC)]
theorem aJc:(aU 73).body=[(.for (.n 1) (.bi .range [(.bi .len [(.loc 0)])]) vJ)]:=rfl
theorem IY{s:St}{t:Nat}{ls:List V}{i:Nat}(h:s.h.get t=some (.list ls)):item s (.ref t) (.int (.ofNat i))=nth ls i:=((rwl (iO h ..) rfl):aP s t none (λl=>nth l i)=_)
theorem aIP(m t k j:Nat)(ts:List Tag)(s:St)(h:s.h.get t=some (.list (aB ts)))(tk tj:Tag)(hk:ts[k]? = some tk)(hj:ts[j]? = some tj):
 (E (m+9)).b uC [some (.ref t),some (.int (.ofNat k)),some (.int (.ofNat j))] s=sel (eqS tj.1 tk.1) (dY (λl s=>.ok .next l s) ((E (m+8)).b [fC] [some (.ref t),some (.int (.ofNat k)),some (.int (.ofNat j))] s)) (.ok .next [some (.ref t),some (.int (.ofNat k)),some (.int (.ofNat j))] s):=by
 have e:(E (m+9)).b uC [some (.ref t),some (.int (.ofNat k)),some (.int (.ofNat j))] s=dY (λl s=>.ok .next l s)
  (((((ofO s (item s (.ref t) (.int (.ofNat j)))).bind λo s=>ofO s (item s o (.int 0))).bind λa s=>((ofO s (item s (.ref t) (.int (.ofNat k)))).bind λo s=>ofO s (item s o (.int 0))).bind λb s=>okB s (cT s .eq a b)).bind tr).bs
   [some (.ref t),some (.int (.ofNat k)),some (.int (.ofNat j))] λy s=>sel y ((E (m+8)).b [fC] [some (.ref t),some (.int (.ofNat k)),some (.int (.ofNat j))] s) (.ok .next [some (.ref t),some (.int (.ofNat k)),some (.int (.ofNat j))] s)):=by kernel_rfl
 simp only[e,IY h,fW hj];obtain⟨a,x,r⟩:=tk;obtain⟨b,y,r'⟩:=tj;have e2:∀f:Bool->St->RS,(((((ofO s (some (Tag.v (b,y,r')))).bind λo s=>ofO s (item s o (.int 0))).bind λa s=>((ofO s (item s (.ref t) (.int (.ofNat k)))).bind λo s=>ofO s (item s o (.int 0))).bind λb s=>okB s (cT s .eq a b)).bind tr).bs
  [some (.ref t),some (.int (.ofNat k)),some (.int (.ofNat j))] f)=((((ofO s (item s (.ref t) (.int (.ofNat k)))).bind λo s=>ofO s (item s o (.int 0))).bind λc s=>okB s (cT s .eq (.str b) c)).bind tr).bs
  [some (.ref t),some (.int (.ofNat k)),some (.int (.ofNat j))] f:=λf=>rfl
 refine rwl (e2 ..) (rwl (IY h ..) (rwl (fW hk ..) ?_));refine(?_:dY (λl s=>.ok .next l s) (((okB s (some (eqS b a))).bind tr).bs _ _)=sel (eqS b a) _ _);cases eqS b a<;>rfl
theorem xA{x:Option α}{a:α}{k:α->RS}(h:x=some a):eM x k=k a:=by rw[h];rfl
section
variable {m t e:Nat}{ts:List Tag}{s bL:St}
theorem TN(h:s.h.get t=some (.list (aB ts)))(hr:∀k j:Nat,∃l,dY (λl s=>.ok .next l s) ((E (m+8)).b [fC] [some (.ref t),some (.int (.ofNat k)),some (.int (.ofNat j))] s)=.exc e l bL)(k:Nat)(tk:Tag)(hk:ts[k]? = some tk):
 ∀(js:List Nat) (w:Option V),(∀j∈js,j<ts.length)->
  ((∃l,hM (E (m+9)) (.n 2) uC (js.map λj=>V.int (.ofNat j)) [some (.ref t),some (.int (.ofNat k)),w] s=.exc e l bL)/\∃j∈js,∃tj,ts[j]? = some tj/\tj.1=tk.1)\/
  ((∃w',hM (E (m+9)) (.n 2) uC (js.map λj=>V.int (.ofNat j)) [some (.ref t),some (.int (.ofNat k)),w] s=.ok .next [some (.ref t),some (.int (.ofNat k)),w'] s)/\∀j∈js,∀tj,ts[j]? = some tj->tj.1≠tk.1):=by
 intro x9;induction x9 with
 |nil=>intro w _;exact .inr ⟨⟨w,rfl⟩,λj hj=>(by cases hj)⟩
 |cons j js aQ=>
  intro w hj;obtain⟨tj,htj⟩:∃tj,ts[j]? = some tj:=⟨_,aLN (hj j (aLQ _))⟩;have e1:hM (E (m+9)) (.n 2) uC ((j::js).map λj=>V.int (.ofNat j)) [some (.ref t),some (.int (.ofNat k)),w] s =
   eG (hM (E (m+9)) (.n 2) uC (js.map λj=>V.int (.ofNat j))) ((E (m+9)).b uC [some (.ref t),some (.int (.ofNat k)),some (.int (.ofNat j))] s):=rfl
  refine rwl (e1 ..) (rwl (aIP m t k j ts s h tk tj hk htj ..) (rwl (bQ ..) ?_));by_cases q:tj.1=tk.1;.refine rwl (decide_eq_true q ..) ?_;obtain⟨l,hl⟩:=(hr k j);refine .inl ⟨⟨l,?_⟩,j,aLQ _,tj,htj,q⟩;rw[hl];rfl
  .refine rwl (decide_eq_false q ..) ?_;have e2:eG (hM (E (m+9)) (.n 2) uC (js.map λj=>V.int (.ofNat j))) (sel false (dY (λl s=>.ok .next l s) ((E (m+8)).b [fC] [some (.ref t),some (.int (.ofNat k)),some (.int (.ofNat j))] s)) (.ok .next [some (.ref t),some (.int (.ofNat k)),some (.int (.ofNat j))] s)) =
    hM (E (m+9)) (.n 2) uC (js.map λj=>V.int (.ofNat j)) [some (.ref t),some (.int (.ofNat k)),some (.int (.ofNat j))] s:=rfl
   refine rwl (e2 ..) ?_;rcases aQ (some (.int (.ofNat j))) (λi hi=>hj i (aLM _ hi)) with⟨h1,i,h2,h3⟩|⟨h1,h2⟩;.exact .inl ⟨h1,i,aLM _ h2,h3⟩
   .refine .inr ⟨h1,λi hi ti hti=>?_⟩;rcases List.mem_cons.mp hi with rfl|hi;.rw[htj]at hti;cases hti;exact q
    .exact h2 i hi ti hti
theorem TL(h:s.h.get t=some (.list (aB ts)))(hl:ts.length<100000)(hr:∀k j:Nat,∃l,dY (λl s=>.ok .next l s) ((E (m+8)).b [fC] [some (.ref t),some (.int (.ofNat k)),some (.int (.ofNat j))] s)=.exc e l bL):
 ∀(ks:List Nat) (w1 w2:Option V),(∀k∈ks,k<ts.length)->
  ((∃l,hM (E (m+10)) (.n 1) vJ (ks.map λj=>V.int (.ofNat j)) [some (.ref t),w1,w2] s=.exc e l bL)/\∃k∈ks,∃j,j<k/\∃tk tj,ts[k]? = some tk/\ts[j]? = some tj/\tj.1=tk.1)\/
  ((∃l,hM (E (m+10)) (.n 1) vJ (ks.map λj=>V.int (.ofNat j)) [some (.ref t),w1,w2] s=.ok .next l s)/\∀k∈ks,∀j,j<k->∀tk tj,ts[k]? = some tk->ts[j]? = some tj->tj.1≠tk.1):=by
 intro x9;induction x9 with
 |nil=>intro w1 w2 _;exact .inr ⟨⟨_,rfl⟩,λj hj=>(by cases hj)⟩
 |cons k ks aQ=>
  intro w1 w2 hj;have hk:=hj k (aLQ _);obtain⟨tk,htk⟩:∃tj,ts[k]? = some tj:=⟨_,aLN hk⟩;have e1:hM (E (m+10)) (.n 1) vJ ((k::ks).map λj=>V.int (.ofNat j)) [some (.ref t),w1,w2] s =
   eG (hM (E (m+10)) (.n 1) vJ (ks.map λj=>V.int (.ofNat j))) (dY (λl s=>.ok .next l s) (eM (items s (.rng 0 (.ofNat k) 1)) λvs=>hM (E (m+9)) (.n 2) uC vs [some (.ref t),some (.int (.ofNat k)),w2] s)):=by kernel_rfl
  refine rwl (e1 ..) (rwl (xA (wV s k (aGf hl hk)) ..) (aLJ λaA=>?_));rcases TN h hr k tk htk (List.range k) w2 (λi hi=>Nat.lt_trans (List.mem_range.mp hi) hk) with⟨⟨l,h1⟩,j,h2,tj,h3,h4⟩|⟨⟨w',h1⟩,h2⟩;.refine aA (.inl ⟨⟨l,?_⟩,k,aLQ _,j,List.mem_range.mp h2,tk,tj,htk,h3,h4⟩);rw[h1];rfl
  .refine aA (rwl (h1 ..) ?_);have e2:eG (hM (E (m+10)) (.n 1) vJ (ks.map λj=>V.int (.ofNat j))) (dY (λl s=>.ok .next l s) (.ok .next [some (.ref t),some (.int (.ofNat k)),w'] s))=hM (E (m+10)) (.n 1) vJ (ks.map λj=>V.int (.ofNat j)) [some (.ref t),some (.int (.ofNat k)),w'] s:=rfl;refine rwl (e2 ..) ?_;rcases aQ (some (.int (.ofNat k))) w' (λi hi=>hj i (aLM _ hi)) with⟨g1,i,g2,g3⟩|⟨g1,g2⟩;.exact .inl ⟨g1,i,aLM _ g2,g3⟩
   .refine .inr ⟨g1,λi hi j hji ti tj hti htj=>?_⟩;rcases List.mem_cons.mp hi with rfl|hi;.rw[htk]at hti;cases hti;exact h2 j (List.mem_range.mpr hji) tj htj
    .exact g2 i hi j hji ti tj hti htj
theorem YD(h:s.h.get t=some (.list (aB ts)))(hl:ts.length<100000)(hr:∀k j:Nat,∃l,dY (λl s=>.ok .next l s) ((E (m+8)).b [fC] [some (.ref t),some (.int (.ofNat k)),some (.int (.ofNat j))] s)=.exc e l bL):
 (aR (E (m+11)) (aU 73) [.ref t] s=.exc e bL/\¬(ts.map (·.1)).Nodup)\/(aR (E (m+11)) (aU 73) [.ref t] s=.ok .none s/\(ts.map (·.1)).Nodup):=by
 have e1:aR (E (m+11)) (aU 73) [.ref t] s=(dY (λl s=>.ok .next l s) ((((aP s t .stuck λl=>RE.ok (mkI (.ofNat (bC l))) s).bind λv s=>RE.ok [v] s).bind (bi .range)).bs [some (.ref t),none,none] λx s=>vE (E (m+10)) (.n 1) vJ x [some (.ref t),none,none] s)).out:=by kernel_rfl
 simp only[e1,iO h,RE.bind_ok,RE.bind_ok,cF];have hlen:bC (aB ts)=ts.length:=by rw[aD];unfold aB;simp
 refine rwl (hlen ..) ?_;have e2:((bi .range [.int (.ofNat ts.length)] s).bs [some (.ref t),none,none] λx s=>vE (E (m+10)) (.n 1) vJ x [some (.ref t),none,none] s)=eM (items s (.rng 0 (.ofNat ts.length) 1)) λvs=>hM (E (m+10)) (.n 1) vJ vs [some (.ref t),none,none] s:=rfl;refine rwl (e2 ..) (rwl (xA (wV s _ hl) ..) ?_);refine aLJ λaA=>?_;rcases TL h hl hr (List.range ts.length) none none (λi hi=>List.mem_range.mp hi) with⟨⟨l,h1⟩,k,hk,j,hj,tk,tj,h2,h3,h4⟩|⟨⟨l,h1⟩,h2⟩;.refine aA ?_;refine .inl ⟨by rw[h1];rfl,λnd=>?_⟩;have hk':=List.mem_range.mp hk;have a1:=(List.getElem?_eq_some_iff.mp h2);have a2:=(List.getElem?_eq_some_iff.mp h3);have:=List.pairwise_iff_getElem.mp nd j k (by simp;exact a2.1) (by simp;exact a1.1) hj;simp only[List.getElem_map]at this;exact this (by rw[a2.2,a1.2];exact h4)
 .refine aA ?_;refine .inr ⟨by rw[h1];rfl,?_⟩;rw[List.Nodup,List.pairwise_iff_getElem];intro i j hi hj hij;have hi':i<ts.length:=by simpa using hi
  have hj':j<ts.length:=by simpa using hj
  simp only[List.getElem_map];exact h2 j (List.mem_range.mpr hj') i hij _ _ (aLN hj') (aLN hi')
end
noncomputable def aKU:CS:=.ifs (.cmp .in_ (.loc 5) (.loc 4)) [(.ret (.c .none))] []
noncomputable def IX:CS:=.setI (.loc 4) (.loc 5) (.loc 6)
noncomputable def vA:List CS:=[aKU,IX]
noncomputable def lfL(t d:Nat)(st us re:V)(a x:Option V):Loc:=[some (.ref t),some st,some us,some re,some (.ref d),a,x,none,none,none,none]
theorem WO(m t d:Nat)(st us re x:V)(a:List Nat)(s:St)(kvs:List (List Nat×V))(h:s.h.get d=some (.dict kvs))(hl:kvs.length<1000):
 (E (m+9)).b vA (lfL t d st us re (some (.str a)) (some x)) s=(match cN kvs a with
  |some _=>.ok (.ret .none) (lfL t d st us re (some (.str a)) (some x)) s
  |none=>.ok .next (lfL t d st us re (some (.str a)) (some x)) (bE s d (.dict (fG kvs a x)))):=by
 have e:(E (m+9)).b vA (lfL t d st us re (some (.str a)) (some x)) s=dY ((E (m+8)).b [IX])
  (((okB s (Option.rec none (λo=>O.casesOn (motive:=λZ=>Option Bool) o (kQ a) (λZ Z=>none) (λkvs=>some (HQ (cN kvs a))) (λZ Z=>none)) (s.h.get d):Option Bool)).bind tr).bs (lfL t d st us re (some (.str a)) (some x)) λy s=>
   sel y ((E (m+8)).b [.ret (.c .none)] (lfL t d st us re (some (.str a)) (some x)) s) ((E (m+8)).b [] (lfL t d st us re (some (.str a)) (some x)) s)):=by kernel_rfl
 refine rwl (e ..) (rwl (h ..) ?_);dsimp only;have e2:(E (m+8)).b [IX] (lfL t d st us re (some (.str a)) (some x)) s=dY (λl s=>.ok .next l s) (fB (lfL t d st us re (some (.str a)) (some x)) (fT s d none λkvs=>sel (Nat.blt (bC kvs) 1000) (some (bE s d (.dict (fG kvs a x)))) none)):=by kernel_rfl
 have e3:fT s d none (λkvs=>sel (Nat.blt (bC kvs) 1000) (some (bE s d (.dict (fG kvs a x)))) none)=some (bE s d (.dict (fG kvs a x))):=by unfold fT;rw[h];refine(?_:sel (Nat.blt (bC kvs) 1000) _ _=_);rw[aD,aC.mpr hl];rfl
 cases cN kvs a with
 |some y=>rfl
 |none=>refine(?_:(E (m+8)).b [IX] (lfL t d st us re (some (.str a)) (some x)) s=_);rw[e2,e3];rfl
def aKW(kvs:List (List Nat×V))(a:List Nat):Prop:=a∈kvs.map (·.1)
theorem jA{kvs:List (List Nat×V)}{a:List Nat}:cN kvs a=none<->a∉kvs.map (·.1):=by
 induction kvs with
 |nil=>exact⟨λZ q=>(by cases q),λZ=>rfl⟩
 |cons p kvs ih=>
  obtain⟨k,v⟩:=p;refine((rwl (bQ ..) ?_):(Bool.rec (cN kvs a) (some v) (eqS k a):Option V)=none<->_);by_cases q:k=a;.refine rwl (decide_eq_true q ..) ⟨λz=>(by cases z),λz=>absurd ?_ z⟩;subst q;simp
  .refine rwl (decide_eq_false q ..) ?_;rw[ih];simp[aMd q]
theorem DB{kvs:List (List Nat×V)}{a:List Nat}{x:V}(h:a∉kvs.map (·.1)):fG kvs a x=kvs++[(a,x)]:=by
 induction kvs with
 |nil=>rfl
 |cons p kvs ih=>obtain⟨k,v⟩:=p;refine(?_:(Bool.rec ((k,v)::fG kvs a x) ((k,x)::kvs) (eqS k a):List (List Nat×V))=_);have q:k≠a:=λq=>h (by simp[q]);refine rwl (bQ ..) (rwl (decide_eq_false q ..) (?_:(k,v)::fG kvs a x=_));rw[ih (λz=>h (by simp at z|-;exact .inr z))];rfl
structure But(s s':St)(d:Nat)(o:O):Prop where
 n:s'.n=s.n
 at_:s'.h.get d=some o
 h:∀i,i≠d->s'.h.get i=s.h.get i
theorem But.set{s s':St}{d:Nat}{o o':O}(b:But s s' d o)(hd:d+1<1024):But s (bE s' d o') d o':=by
 unfold bE;refine⟨b.n,?_,λi hi=>?_⟩;.exact((rwl (Tr.get_upd _ _ _ _ _ hd ..) (rwl (if_pos rfl ..) rfl)):(s'.h.upd o' 10 d).get d=_)
 .refine(?_:(s'.h.upd o' 10 d).get i=_);rw[Tr.get_upd _ _ _ _ _ hd,if_neg hi];exact b.h i hi
theorem WL{m t d:Nat}{st us re:V}{s₀:St}(hd:d+1<1024)(htd:t≠d)(h:s₀.h.get t=some (.list (aB ts)))(hr:∀q∈ts,q.2.2=[])(hlen:ts.length<900):
 ∀(k i:Nat) (w1 w2:Option V) (s:St) (kvs:List (List Nat×V)),i+k=ts.length->kvs.length<=i->But s₀ s d (.dict kvs)->
  (∃l s',fO (E (m+9)) (.t [5,6]) vA t k i (lfL t d st us re w1 w2) s=.ok (.ret .none) l s'/\¬((kvs++(ts.drop i).map λq=>(q.1,q.2.1)).map (·.1)).Nodup/\∃kvs',But s₀ s' d (.dict kvs'))\/
  (∃w1' w2' s',fO (E (m+9)) (.t [5,6]) vA t k i (lfL t d st us re w1 w2) s=.ok .next (lfL t d st us re w1' w2') s'/\((kvs.map (·.1)).Nodup->((kvs++(ts.drop i).map λq=>(q.1,q.2.1)).map (·.1)).Nodup)/\But s₀ s' d (.dict (kvs++(ts.drop i).map λq=>(q.1,q.2.1)))):=by
 intro x9;induction x9 with
 |zero=>
  intro i w1 w2 s kvs hk hki hb;have hi:i=ts.length:=OQ hk;have ht:s.h.get t=some (.list (aB ts)):=(hb.h t htd).trans h;refine .inr ⟨w1,w2,s,?_,?_,?_⟩
  .refine rwl (fM ..) (rwl (iO ht ..) ?_);have:Nat.beq (bC (aB ts)) i=true:=by rw[aD];unfold aB;rw[aLX,hi];exact Nat.beq_refl _
   rw[this];rfl
  .rw[aL6 (qZ hk)];simp
  .rw[aL6 (qZ hk)];simpa using hb
 |succ k aQ=>
  intro i w1 w2 s kvs hk hki hb;refine aLJ λaA=>?_;have hi:i<ts.length:=uY hk;have ht:s.h.get t=some (.list (aB ts)):=(hb.h t htd).trans h;obtain⟨⟨a,x,r⟩,hq⟩:∃q,ts[i]=q:=⟨_,rfl⟩;have hr0:r=[]:=hr (a,x,r) (by rw[<- hq];exact aMc hi);subst hr0;have hn:nth (aB ts) i=some (.tup [.str a,x]):=fW (t:=(a,x,[])) (by rw[aLN hi,hq]);refine aA ?_;have e:fO (E (m+9)) (.t [5,6]) vA t (k+1) i (lfL t d st us re w1 w2) s=eG (fO (E (m+9)) (.t [5,6]) vA t k (i+1)) ((E (m+9)).b vA (lfL t d st us re (some (.str a)) (some x)) s):=by refine rwl (gU ..) (rwl (iO ht ..) ?_);rw[hn];rfl
  refine rwl (e ..) (rwl (WO m t d st us re x a s kvs hb.at_ (aKq hlen hk hki) ..) (rwl (fQ hi ..) (rwl (hq ..) ?_)));cases z:cN kvs a with
  |some y=>
   refine .inl ⟨_,s,rfl,λnd=>?_,kvs,hb⟩;have:a∈kvs.map (·.1):=by
    by_cases q:a∈kvs.map (·.1);.exact q
    .rw[jA.mpr q]at z;cases z
   rw[aMb,List.nodup_append]at nd;exact nd.2.2 a this a (by simp) rfl
  |none=>
   have hna:=jA.mp z;refine rwl (DB hna ..) ?_;have hb':=hb.set (o':=.dict (kvs++[(a,x)])) hd;have assoc:kvs++((a,x,([]:List V))::ts.drop (i+1)).map (λq:Tag=>(q.1,q.2.1))=(kvs++[(a,x)])++(ts.drop (i+1)).map λq=>(q.1,q.2.1):=by simp
   refine rwl (assoc ..) ?_;have e3:eG (fO (E (m+9)) (.t [5,6]) vA t k (i+1)) (.ok .next (lfL t d st us re (some (.str a)) (some x)) (bE s d (.dict (kvs++[(a,x)]))))=fO (E (m+9)) (.t [5,6]) vA t k (i+1) (lfL t d st us re (some (.str a)) (some x)) (bE s d (.dict (kvs++[(a,x)]))):=rfl;refine rwl (show(match (none:Option V) with|some _=>RS.ok (.ret .none) (lfL t d st us re (some (.str a)) (some x)) s|none=>RS.ok .next (lfL t d st us re (some (.str a)) (some x)) (bE s d (.dict (kvs++[(a,x)]))))=RS.ok .next (lfL t d st us re (some (.str a)) (some x)) (bE s d (.dict (kvs++[(a,x)]))) from rfl ..) (rwl (e3 ..) ?_);rcases aQ (i+1) (some (.str a)) (some x) _ (kvs++[(a,x)]) (yX hk) (by simp;exact aFo hki) hb' with⟨l,s',g1,g2,g3⟩|⟨w1',w2',s',g1,g2,g3⟩;.exact .inl ⟨l,s',g1,g2,g3⟩
   .refine .inr ⟨w1',w2',s',g1,λnd=>g2 ?_,g3⟩;rw[aMb,List.nodup_append];refine⟨nd,by simp,λb hb c hc q=>?_⟩;have:c=a:=by simpa using hc
    subst this;subst q;exact hna hb
theorem sA(l:Loc)(is:List Nat):gI l (.t is)=lD l is:=rfl
theorem nI(l:Loc):lD l []=true:=rfl
theorem sB(l:Loc)(i:Nat)(r:List Nat):lD l (i::r)=sel (jT l i) (lD l r) false:=rfl
theorem aJh(l:Loc)(i:Nat):gI l (.n i)=jT l i:=rfl
theorem sC(l:Loc)(i:Nat):jT l i=Option.rec true (λx=>Option.rec true (λZ=>false) x) (nth l i):=rfl
theorem rW(a b:List Nat):eqT (.str a) (.str b)=some (decide (a=b)):=by rw[<- bQ];rfl
theorem HG(s:St)(a b:List Nat):cT s .eq (.str a) (.str b)=some (decide (a=b)):=rW a b
theorem jF(s:St)(a b:List Nat):cT s .ne (.str a) (.str b)=some (!decide (a=b)):=by refine(?_:uZ (eqT (.str a) (.str b))=_);rw[rW,<- gO];rfl
theorem tH(x:List Nat):∀ns:List (List Nat),kQ x (ns.map V.str)=some (decide (x∈ns)):=by
 intro x9;induction x9 with
 |nil=>show some false=_;simp
 |cons n ns aQ=>
  refine((rwl (aQ ..) (rwl (bQ ..) ?_)):(Bool.rec (kQ x (ns.map V.str)) (Option.rec none (λZ=>some true) (kQ x (ns.map V.str))) (eqS x n):Option Bool)=_);by_cases q:x=n;.rw[decide_eq_true q];subst q;simp
  .rw[decide_eq_false q];simp[q]
theorem hA(h:n<100000):Nat.blt n lim=true:=aC.mpr h
theorem mZ{n k:Nat}(h:n<k):Nat.blt n k=true:=aC.mpr h
noncomputable abbrev lfM(t st us re d a:V)(w6:Option V)(o:V)(w8:Option V):Loc:=[some t,some st,some us,some re,some d,some a,w6,some o,w8,none,none]
theorem WM(m d o:Nat)(t st us re:V)(w6 w8:Option V)(a:List Nat)(os:List Tag)(s:St)(ho:s.h.get o=some (.list (aB os)))(hr:∀q∈os,q.2.2=[]):
 ∀k i,i+k=os.length->hY (E (m+16)) (lfM t st us re (.ref d) (.str a) w6 (.ref o) w8) (CE.loc 9) (Tg.t [9,10]) [CE.cmp CO.eq (CE.loc 9) (CE.loc 5)] o k i s=.ok (((os.drop i).filter λq=>decide (q.1=a)).map λq=>V.str q.1) s:=by
 intro x9;induction x9 with
 |zero=>
  intro i hk;refine rwl (hU ..) (rwl (bK ho ..) (rwl (aL6 (qZ hk) ..) ?_));have:Nat.beq (bC (aB os)) i=true:=by rw[aD];unfold aB;rw[aLX,show os.length=i by exact BD hk];exact Nat.beq_refl _
  rw[this];rfl
 |succ k aQ=>intro i hk;have hi:i<os.length:=uY hk;refine rwl (fQ hi ..) (aLJ λaA=>?_);obtain⟨⟨b,x,r⟩,hq⟩:∃q,os[i]=q:=⟨_,rfl⟩;have hr0:r=[]:=hr (b,x,r) (by rw[<- hq];exact aMc hi);subst hr0;have hn:nth (aB os) i=some (.tup [.str b,x]):=fW (t:=(b,x,[])) (by rw[aLN hi,hq]);refine aA (rwl (hW ..) (rwl (bK ho ..) (rwl (hn ..) (rwl (hq ..) ?_))));simp only[HD,eL,eP,aT,aN,nG,aM,rY,dE,bY,aW,aK,RE.bind_ok];simp only[HG,cX,RE.bind_ok,eX,bG,tW];have ih:=aQ (i+1) (yX hk);by_cases q:b=a<;>simp only[q,decide_true,decide_false,aI,cK,RE.bind_ok,List.filter_cons,List.map_cons,ih]<;>rfl
noncomputable def WP:List CS:=[(.ifs (.and [(.cmp .eq (.comp (.loc 9) (.t [9,10]) (.loc 7) [(.cmp .eq (.loc 9) (.loc 5))]) (.lst [])),(.or [(.cmp .ne (.loc 1) (.loc 2)),(.cmp .nin (.loc 5) (.tup [(.c (.str [70,69,78])),(.c (.str [83,101,116,85,112]))]))])]) [(.ex (.meth .append (.loc 7) [(.tup [(.loc 5),(.sub (.loc 4) (.loc 5))])]))] [])]
structure Gr(s s':St)(o:Nat):Prop where
 n:s.n<=s'.n
 h:∀i,i<s.n->i≠o->s'.h.get i=s.h.get i
theorem Gr.refl(s:St)(o:Nat):Gr s s o:=⟨aLO _,λZ Z Z=>rfl⟩
theorem Gr.trans{a b c:St}{o:Nat}(x:Gr a b o)(y:Gr b c o):Gr a c o:=⟨aL1 x.n y.n,λi h1 h2=>(y.h i (aLL h1 x.n) h2).trans (x.h i h1 h2)⟩
theorem fZ(s:St)(x:O)(o:Nat)(h:s.n<1000):Gr s (aV s x) o:=⟨aLV _,λi h1 h2=>by rw[aY _ h,if_neg (qU h1)]⟩
theorem oP(s:St)(x:O)(o:Nat)(h:o<1000):Gr s (bE s o x) o:=⟨aLO _,λi h1 h2=>by rw[aS _ _ h,if_neg h2]⟩
noncomputable def jQ(st us a:List Nat)(os:List Tag):Bool:=(os.filter λq=>decide (q.1=a)).isEmpty&&(!decide (st=us)||!decide (a∈[[70,69,78],[83,101,116,85,112]]))
theorem SX(l:List V):CX l []=some l.isEmpty:=by cases l<;>rfl
theorem aHQ(m d o:Nat)(t re:V)(w6 w8:Option V)(st us a:List Nat)(os:List Tag)(kvs:List (List Nat×V))(x:V)(s:St)(ho:s.h.get o=some (.list (aB os)))(hd:s.h.get d=some (.dict kvs))(hx:cN kvs a=some x)(hr:∀q∈os,q.2.2=[])(hl:os.length<1000)(hn:s.n<900)(hon:o<s.n)(hdn:d<s.n)(hod:o≠d):
 ∃s',(E (m+20)).b WP (lfM t (.str st) (.str us) re (.ref d) (.str a) w6 (.ref o) w8) s=.ok .next (lfM t (.str st) (.str us) re (.ref d) (.str a) w6 (.ref o) w8) s'/\s'.n=s.n+2/\Gr s s' o/\s'.h.get o=some (.list (aB (if jQ st us a os then os++[(a,x,[])] else os))):=by
 unfold WP;simp only[x_b,pD,eL,zZ,sD,eP,rZ,aT,aN,aW,aK,aM,RE.bind_ok,HE,bH,mC,gD,cJ,fS,jU,gE];simp only[sA,sB,nI,sC,aK,aW,aI];have hc:gM (E (m+16)) (lfM t (.str st) (.str us) re (.ref d) (.str a) w6 (.ref o) w8) (CE.loc 9) (Tg.t [9,10]) [CE.cmp CO.eq (CE.loc 9) (CE.loc 5)] (V.ref o) s=.ok ((os.filter λq=>decide (q.1=a)).map λq=>V.str q.1) s:=by refine(?_:aP s o RE.stuck _=_);exact rwl (bK ho ..) (rwl (oR ..) (rwl (iQ ho ..) (rwl (WM m d o t (.str st) (.str us) re w6 w8 a os s ho hr _ _ (by rw[aD];unfold aB;simp) ..) (rwl (List.drop_zero ..) rfl))))
 refine rwl (hc ..) ?_;have hfl:((os.filter λq=>decide (q.1=a)).map λq=>V.str q.1).length<100000:=by rw[aLX];exact aL0 (List.length_filter_le _ _) (aEO hl)
 generalize hF:os.filter (λq=>decide (q.1=a))=F at hfl|-;simp only[lN,RE.bind_ok];refine rwl (fI _ (cS hn) hfl ..) ?_;simp only[RE.bind_ok];refine rwl (fI _ (by simp only[bN];exact AX hn) (by simp) ..) ?_;simp only[RE.bind_ok,bN];generalize hs2:aV (aV s (.list (F.map λq=>V.str q.1))) (.list [])=s2;have n2:s2.n=s.n+2:=by rw[<- hs2];rfl
 have g2:Gr s s2 o:=by rw[<- hs2];exact(fZ _ _ _ (cS hn)).trans (fZ _ _ _ (by simp only[bN];exact AX hn))
 have e1:s2.h.get s.n=some (.list (F.map λq=>V.str q.1)):=rwr (hs2 ..) (rwl (aY _ (by simp only[bN];exact AX hn) ..) (rwl (if_neg (by simp only[bN];exact ZB) ..) (rwl (aY _ (cS hn) ..) (rwl (if_pos rfl ..) rfl))));have e2:s2.h.get (s.n+1)=some (.list []):=rwr (hs2 ..) (rwl (aY _ (by simp only[bN];exact AX hn) ..) (rwl (if_pos (by simp only[bN]) ..) rfl));have o2:s2.h.get o=some (.list (aB os)):=rwr (ho ..) (rwr (hs2 ..) (rwl (aY _ (by simp only[bN];exact AX hn) ..) (rwl (if_neg (by simp only[bN];exact IF hon) ..) (rwl (aY _ (cS hn) ..) (rwl (if_neg (qU hon) ..) rfl)))));have d2:s2.h.get d=some (.dict kvs):=(g2.h d hdn (aMd hod)).trans hd;have hcmp:cT s2 .eq (.ref s.n) (.ref (s.n+1))=some F.isEmpty:=by refine(?_:aP s2 s.n none _=_);rw[bK e1,bK e2,SX];cases F<;>rfl
 refine rwl (hcmp ..) ?_;clear hs2;have hk:jQ st us a os=(F.isEmpty&&(!decide (st=us)||!decide (a∈[[70,69,78],[83,101,116,85,112]]))):=by unfold jQ;rw[hF]
 refine rwl (hk ..) ?_;simp only[cX,RE.bind_ok];cases hb:F.isEmpty with
 |false=>
  refine JJ s2 ?_ n2 g2 ?_;.simp only[rT,RE.bind_ok,eX,bG,aL,cK,aZ,gE]
  .simpa using o2
 |true=>
  simp only[yM,EC,aJe,aDf,eP,aT,aN,aW,aK,aM,RE.bind_ok];have hin:cT s2 .nin (.str a) (.tup [.str [70,69,78],.str [83,101,116,85,112]])=some (!decide (a∈[[70,69,78],[83,101,116,85,112]])):=by refine(?_:uZ (kQ a ([[70,69,78],[83,101,116,85,112]].map V.str))=_);rw[tH,<- gO];rfl
  have hi:item s2 (.ref d) (.str a)=some x:=by show fT s2 d none _=_;rw[yJ d2];exact hx
  have hap:meth .append (.ref o) [.tup [.str a,x]] s2=.ok .none (bE s2 o (.list (aB (os++[(a,x,[])])))):=by refine rwl (kE ..) (rwl (bK o2 ..) (rwl (pA _ _ (by rw[cI];unfold aB;simp;exact ZK hl) ..) (rwl (cI ..) ?_)));unfold aB;rw[aMb];rfl
  have hgo:(bE s2 o (.list (aB (os++[(a,x,[])])))).h.get o=some (.list (aB (os++[(a,x,[])]))):=by rw[aS _ _ (aAF hn hon),if_pos rfl]
  have hl2:Nat.blt (bC [V.str a,x]) lim=true:=by rw[aD];exact hA (by simp)
  have g3:=g2.trans (oP s2 (.list (aB (os++[(a,x,[])]))) o (aAF hn hon));have hm:=jG .append o2;by_cases q:st=us
  .subst q;simp only[jF,decide_true,Bool.not_true,cX,RE.bind_ok,aBC,aDg];simp only[eP,aT,aN,aW,aK,aM,fS,cJ,x_c,bH,RE.bind_ok];refine rwl (aD ..) (rwl (hA (by simp) ..) ?_);simp only[aI,RE.bind_ok,hin,cX,eX,bG,aL];cases (decide (a∈[[70,69,78],[83,101,116,85,112]])) with
   |true=>exact⟨s2,by rfl,n2,g2,by simpa using o2⟩
   |false=>refine JJ (bE s2 o (.list (aB (os++[(a,x,[])])))) ?_ n2 g3 (by simpa using hgo);simp only[Bool.not_false,aI,hi,hm,bG,RE.bind_ok,hl2,hap,aL,dM,aZ,gE]
  .simp only[jF,q,decide_false,Bool.not_false,cX,RE.bind_ok,aBB,eX,bG,Bool.true_and,Bool.true_or,aL,aI];refine⟨bE s2 o (.list (aB (os++[(a,x,[])]))),?_,n2,g3,by simpa using hgo⟩;simp only[aI,hi,hm,bG,RE.bind_ok,hl2,hap,aL,dM,aZ,gE]
noncomputable def tN(key:α->List Nat)(v:α):List α->List α
 | []=>[v]
 |x::l=>if ¬key x<key v then v::x::l else x::tN key v l
noncomputable def cM(key:α->List Nat):List α->List α
 | []=>[]
 |x::l=>tN key x (cM key l)
theorem RP{key:α->List Nat}{f:α->V}(h:∀a,eN (f a)=key a)(v:α):∀l:List α,CI (f v) (l.map f)=(tN key v l).map f:=by
 intro x9;induction x9 with
 |nil=>exact rfl
 |cons x l aQ=>
  refine(?_:(Bool.rec (f x::CI (f v) (l.map f)) (f v::f x::l.map f) (leS (eN (f v)) (eN (f x))):List V)=_);simp only[QO,h,h,aQ,tN];by_cases q:key x<key v;.rw[if_neg (by simpa using q),decide_eq_false (by simpa using q)];rfl
  .rw[if_pos q,decide_eq_true q];rfl
theorem wQ{key:α->List Nat}{f:α->V}(h:∀a,eN (f a)=key a):∀l:List α,iC (l.map f)=(cM key l).map f:=by
 intro x9;induction x9 with
 |nil=>exact rfl
 |cons x l aQ=>refine(?_:CI (f x) (iC (l.map f))=_);rw[aQ,RP h];rfl
theorem tM{key:α->List Nat}{v a:α}:∀{l:List α},a∈tN key v l<->a=v\/a∈l
 | []=>by simp[tN]
 |x::l=>by
  dsimp only[tN];split;.simp
  .simp only[List.mem_cons,tM (l:=l)];constructor;.rintro(h|h|h);exact .inr (.inl h);exact .inl h;exact .inr (.inr h)
   .rintro(h|h|h);exact .inr (.inl h);exact .inl h;exact .inr (.inr h)
theorem dD{key:α->List Nat}{a:α}:∀{l:List α},a∈cM key l<->a∈l
 | []=>by simp[cM]
 |x::l=>by rw[cM,tM,dD (l:=l)];simp
theorem CJ{key:α->List Nat}{v:α}:∀{l:List α},(tN key v l).length=l.length+1
 | []=>rfl
 |x::l=>by
  dsimp only[tN];split;.rfl
  .simp[CJ (l:=l)]
theorem hJ{key:α->List Nat}:∀{l:List α},(cM key l).length=l.length
 | []=>rfl
 |x::l=>by rw[cM,CJ,hJ (l:=l)];rfl
noncomputable def kX(st us:List Nat)(kvs:List (List Nat×V)):List (List Nat)->List Tag->List Tag
 | [],os=>os
 |a::ks,os=>kX st us kvs ks (if jQ st us a os then os++[(a,(cN kvs a).getD .none,[])] else os)
noncomputable abbrev lfN(t st us re d:V)(a:Option V)(w6 o w8:Option V):Loc:=[some t,some st,some us,some re,some d,a,w6,o,w8,none,none]
theorem QN(m d o c:Nat)(t re:V)(w6 w8:Option V)(st us:List Nat)(kvs:List (List Nat×V))(ks:List (List Nat))(hk:∀a∈ks,∃x,cN kvs a=some x)(hod:o≠d)(hoc:c≠o):
 ∀(k i:Nat) (w5:Option V) (os:List Tag) (s:St),i+k=ks.length->s.h.get c=some (.list (ks.map V.str))->s.h.get o=some (.list (aB os))->s.h.get d=some (.dict kvs)->(∀q∈os,q.2.2=[])->os.length+k<1000->s.n+2*k<900->o<s.n->d<s.n->c<s.n->
  ∃w s',fO (E (m+20)) (.n 5) WP c k i (lfN t (.str st) (.str us) re (.ref d) w5 w6 (some (.ref o)) w8) s=.ok .next (lfN t (.str st) (.str us) re (.ref d) w w6 (some (.ref o)) w8) s'/\Gr s s' o/\s'.h.get o=some (.list (aB (kX st us kvs (ks.drop i) os))):=by
 intro x9;induction x9 with
 |zero=>
  intro i w5 os s hik hc ho hd hr hl hn hon hdn hcn;refine bM w5 s ?_ (Gr.refl _ _) ?_
  .refine rwl (fM ..) (rwl (bK hc ..) ?_);have:Nat.beq (bC (ks.map V.str)) i=true:=by rw[aD,aLX,show ks.length=i by exact BD hik];exact Nat.beq_refl _
   rw[this];rfl
  .rw[aL6 (qZ hik)];exact ho
 |succ k aQ=>
  intro i w5 os s hik hc ho hd hr hl hn hon hdn hcn;refine aLJ λaA=>?_;have hi:i<ks.length:=uY hik;obtain⟨a,ha⟩:∃a,ks[i]=a:=⟨_,rfl⟩;refine e11 (hk a (ha▸aMc hi)) λx hx=>aA (rwl (fQ hi ..) (rwl (ha ..) ?_));have hnth:nth (ks.map V.str) i=some (.str a):=by rw[fA,aL8,aLN hi,ha];rfl
  refine aLJ λaA=>e14 (aHQ m d o t re w6 w8 st us a os kvs x s ho hd hx hr (aAI hl) (aGD hn) hon hdn hod) λs' e n' g' o'=>aA (rwl (SM ..) (rwl (bK hc ..) (rwl (hnth ..) ?_)));simp only[cP,cR,bY,dE];refine rwl (e ..) ?_;simp only[yK];have ex:(cN kvs a).getD V.none=x:=by rw[hx];rfl
  have hr':∀q∈(if jQ st us a os then os++[(a,x,[])] else os),q.2.2=[]:=λq hq=>by
   split at hq
   .rcases List.mem_append.mp hq with h|h;.exact hr q h
    .exact rwl (List.mem_singleton.mp h ..) rfl
   .exact hr q hq
  refine aLJ λaA=>?_;obtain⟨w,bL,e2,g2,o2⟩:=aQ (i+1) (some (.str a)) (if jQ st us a os then os++[(a,x,[])] else os) s' (yX hik) ((g'.h c hcn hoc).trans hc) o' ((g'.h d hdn (aMd hod)).trans hd)
   hr' (by split<;>(try simp only[aMe,List.length_singleton])<;>omega) (aJ6 hn n') (OT hon n') (OT hdn n') (OT hcn n')
  refine aA (bM w bL e2 (g'.trans g2) ?_);rw[o2,kX,ex]
def eA(kvs:List (List Nat×V))(ps:List (List Nat×V)):List Tag:=ps.map λp=>(p.1,(cN kvs p.1).getD p.2,[])
noncomputable def LB:List CS:=[(.ex (.meth .append (.loc 7) [(.tup [(.loc 5),(.meth .get (.loc 4) [(.loc 5),(.loc 8)])])]))]
theorem aCh(x:Option α)(d:α):(Option.rec d (λv=>v) x:α)=x.getD d:=by cases x<;>rfl
theorem aI5:bC ([]:List α)=0:=rfl
theorem aJf(a:α)(r:List α):bC (a::r)=bC r+1:=rfl
theorem WK(m d o:Nat)(t st us re:V)(kvs:List (List Nat×V))(hod:o≠d):
 ∀(ps:List (List Nat×V)) (w5 w6 w8:Option V) (os:List Tag) (s:St),s.h.get o=some (.list (aB os))->s.h.get d=some (.dict kvs)->os.length+ps.length<1000->o<900->∃w w' s',hM (E (m+12)) (.t [5,8]) LB (ps.map λp=>V.tup [.str p.1,p.2]) (lfN t st us re (.ref d) w5 w6 (some (.ref o)) w8) s=.ok .next (lfN t st us re (.ref d) w w6 (some (.ref o)) w') s'/\s'.n=s.n/\Gr s s' o/\s'.h.get o=some (.list (aB (os++eA kvs ps)))/\(ps≠[]->∃z,w'=some z):=by
 intro EE;induction EE with
 |nil=>intro w5 w6 w8 os s ho hd hl hon;exact⟨w5,w8,s,rfl,rfl,Gr.refl _ _,by simpa [eA] using ho,λh=>absurd rfl h⟩
 |cons MZ ps aQ=>
  obtain⟨a,x⟩:=MZ;intro w5 w6 w8 os s ho hd hl hon;simp only[List.length_cons]at hl;refine rwl (List.map_cons ..) (rwl (pY ..) ?_);unfold LB;simp only[rY,dE,bY,x_b,mC,gD,aT,aN,cJ,fS,bH,RE.bind_ok,cP,aW,aK,aM];refine rwl (aBH _ hd ..) (rwl (aDj ..) (rwl (yJ hd ..) (rwl (jG _ ho ..) (rwl (aCh ..) ?_))));simp only[aI,RE.bind_ok];refine rwl (show Nat.blt (bC [V.str a,(cN kvs a).getD x]) lim=true from by rw[aD];exact hA (by simp) ..) ?_;simp only[aI,RE.bind_ok];refine rwl (kE ..) (rwl (bK ho ..) (rwl (pA _ _ (by rw[cI];unfold aB;simp;exact aGM hl) ..) ?_));simp only[aL,dM,aI,aZ,gE,yK];have e:app (aB os) [V.tup [.str a,(cN kvs a).getD x]]=aB (os++[(a,(cN kvs a).getD x,[])]):=by rw[cI];unfold aB;rw[aMb];rfl
  refine rwl (e ..) ?_;have ho':(bE s o (.list (aB (os++[(a,(cN kvs a).getD x,[])])))).h.get o=some (.list (aB (os++[(a,(cN kvs a).getD x,[])]))):=by rw[aS _ _ (cS hon),if_pos rfl]
  have hd':(bE s o (.list (aB (os++[(a,(cN kvs a).getD x,[])])))).h.get d=some (.dict kvs):=by rw[aS _ _ (cS hon),if_neg (aMd hod)];exact hd
  refine e35 (aQ (some (.str a)) w6 (some x) (os++[(a,(cN kvs a).getD x,[])]) _ ho' hd' (by simp;exact aAJ hl) hon) λw w' s' e1 n1 g1 o1 z1=>?_;unfold LB at e1;refine fH w w' s' e1 n1 ((oP _ _ _ (cS hon)).trans g1) ?_ (λZ=>?_);.rw[o1];simp[eA]
  .cases ps with
   |nil=>cases e1;exact⟨_,rfl⟩
   |cons p ps=>exact z1 (by simp)
noncomputable def eJ:List (List Nat×V):=[([69,118,101,110,116],.str [63]),([83,105,116,101],.str [63]),([68,97,116,101],.str [63,63,63,63,46,63,63,46,63,63]),([82,111,117,110,100],.str [63]),([87,104,105,116,101],.str [63]),([66,108,97,99,107],.str [63])]
theorem VL:pX 24=.tup (eJ.map λp=>V.tup [.str p.1,p.2]):=rfl
noncomputable def dI(ts:List Tag):List (List Nat×V):=ts.map λq=>(q.1,q.2.1)
def iL(kvs:List (List Nat×V))(st:List Nat):List (List Nat×V):=fG (fG kvs [70,69,78] (.str st)) [83,101,116,85,112] (.str [49])
def AA(ts:List Tag)(st us:List Nat)(re:V):List Tag:=kX st us (iL (dI ts) st) (cM id ((iL (dI ts) st).map (·.1))) (eA (dI ts) eJ++[([82,101,115,117,108,116],re,[])])
theorem TK{kvs:List (List Nat×V)}{a:List Nat}(h:a∈kvs.map (·.1)):∃x,cN kvs a=some x:=by
 cases q:cN kvs a with
 |some x=>exact⟨x,rfl⟩
 |none=>exact absurd h (jA.mp q)
theorem QM:nE=[(.asg (.n 4) .dict0),(.for (.t [5,6]) (.loc 0) vA),(.asg (.n 7) (.lst [])),(.for (.t [5,8]) (.glo 24) LB),(.ex (.meth .append (.loc 7) [(.tup [(.c (.str [82,101,115,117,108,116])),(.loc 3)])])),
 (.setI (.loc 4) (.c (.str [70,69,78])) (.loc 1)),(.setI (.loc 4) (.c (.str [83,101,116,85,112])) (.c (.str [49]))),(.for (.n 5) (.bi .sorted [(.loc 4)]) WP),(.ret (.loc 7))]:=rfl
theorem EB{ih:Ev}{tg:Tg}{b:List CS}{t:Nat}{s:St}{ls:List V}(h:s.h.get t=some (.list ls)):vE ih tg b (.ref t) l s=fO ih tg b t ls.length 0 l s:=by refine(?_:aP s t RS.stuck _=_);exact rwl (bK h ..) (rwl (oR ..) (rwl (iQ h ..) (rwl (aD ..) rfl)))
theorem aDw(a b:α)(r:List α)(i:Nat):bZ (a::r) (i+1) b=a::bZ r i b:=rfl
theorem rX{s:St}{d:Nat}{kvs:List (List Nat×V)}(h:s.h.get d=some (.dict kvs))(hl:kvs.length<1000)(a:List Nat)(x:V):setItem s (.ref d) (.str a) x=some (bE s d (.dict (fG kvs a x))):=by refine(?_:fT s d none _=_);rw[yJ h,aD,mZ hl];rfl
theorem UL{s:St}{d:Nat}{kvs:List (List Nat×V)}(h:s.h.get d=some (.dict kvs))(hl:kvs.length<64):bi .sorted [.ref d] s=cZ s (iC (eU kvs)):=by refine(?_:(match s.h.get d with|some (.list l)=>_|some (.dict kvs)=>_|_=>RE.stuck)=_);rw[h];dsimp only;rw[aD,mZ hl];rfl
theorem tJ(ts:List Tag):(dI ts).map (·.1)=ts.map (·.1):=by unfold dI;rw[List.map_map];rfl
theorem LE(kvs:List (List Nat×V)):iC (eU kvs)=(cM id (kvs.map (·.1))).map V.str:=by rw[xM,<- wQ (key:=id) (f:=V.str) (λa=>rfl),List.map_map];rfl
theorem WN(m t:Nat)(st us:List Nat)(re:V)(ts:List Tag)(s:St)(ht:s.h.get t=some (.list (aB ts)))(htn:t<s.n)(hr:∀q∈ts,q.2.2=[])(hl:ts.length<20)(hn:s.n<700):
 (∃s',aR (E (m+40)) (aU 78) [.ref t,.str st,.str us,re] s=.ok .none s'/\¬(ts.map (·.1)).Nodup/\Gr s s' s.n)\/
 (∃s' o,aR (E (m+40)) (aU 78) [.ref t,.str st,.str us,re] s=.ok (.ref o) s'/\(ts.map (·.1)).Nodup/\s.n<=o/\Gr s s' s.n/\s'.h.get o=some (.list (aB (AA ts st us re)))):=by
 have e0:aR (E (m+40)) (aU 78) [.ref t,.str st,.str us,re] s=((E (m+40)).b nE (lfL t 0 (.str st) (.str us) re none none|>.set 4 none) s).out:=rfl;refine rwl (e0 ..) (rwl (QM ..) ?_);unfold lfL;simp only[List.set_cons_succ,List.set_cons_zero];simp only[x_b,eQ,UP,cR,dE,bY,cP];refine rwl (EA _ _ (jX hn) ..) ?_;simp only[aL,aZ,x_b,HF,aT,aN,aK,aM];refine rwl (show(⟨Tr.upd (O.dict []) 10 s.h s.n,s.n+1⟩:St)=aV s (.dict []) from rfl ..) ?_;generalize hs1:aV s (.dict [])=s1;have n1:s1.n=s.n+1:=by rw[<- hs1];rfl
 have d1:s1.h.get s.n=some (.dict []):=by rw[<- hs1,aY _ (jX hn),if_pos rfl]
 have g1:Gr s s1 s.n:=by rw[<- hs1];exact fZ _ _ _ (jX hn)
 have t1:s1.h.get t=some (.list (aB ts)):=(g1.h t htn (aAA htn)).trans ht;rw[EB t1,show(aB ts).length=ts.length by unfold aB;simp];have gb:∀{s':St}{o:O},But s1 s' s.n o->Gr s s' s.n:=λb=>g1.trans ⟨by rw[b.n];exact aLO _,λi Z h2=>b.h i h2⟩;refine aLJ λaA=>?_;rcases WL (m:=m+29) (d:=s.n) (st:=.str st) (us:=.str us) (re:=re) (s₀:=s1) (aEA hn) (aAA htn) t1 hr (aED hl) ts.length 0 none none s1 [] (OG) (Nat.zero_le _) ⟨rfl,d1,λZ Z=>rfl⟩ with⟨l',s',e,nd,kvs',b⟩|⟨w1,w2,s',e,nd,b⟩
 .refine aA ?_;left;refine⟨s',?_,?_,gb b⟩;.unfold lfL at e;rw[e];rfl
  .rw[List.drop_zero,List.nil_append]at nd;rw[<- tJ];exact nd
 .refine aA ?_;right;unfold lfL at e;refine rwl (e ..) ?_;simp only[aZ,x_b,eQ,HE,bH,RE.bind_ok,cR,dE,bY,cP];have nd':(ts.map (·.1)).Nodup:=by have q:=nd List.nodup_nil;rw[List.drop_zero,List.nil_append]at q;rw[<- tJ];exact q
  have b:But s1 s' s.n (.dict (dI ts)):=b;have n':s'.n=s.n+1:=b.n.trans n1;have g':=gb b;have kl:(dI ts).length=ts.length:=by unfold dI;simp
  have d':=b.at_;refine rwl (fI _ (qW hn n') (by simp) ..) ?_;simp only[aL,aZ,x_b,HF,wH];generalize hs3:aV s' (.list [])=s3;have n3:s3.n=s.n+2:=by rw[<- hs3,bN,n']
  have gg:Gr s' s3 s3.n:=by rw[<- hs3];exact⟨aLV _,λi h1 Z=>by rw[aY _ (qW hn n'),if_neg (qU h1)]⟩
  have d3:s3.h.get s.n=some (.dict (dI ts)):=(gg.h _ (aAs n') (aAp n3)).trans d';have o3:s3.h.get s'.n=some (.list (aB [])):=by rw[<- hs3,aY _ (qW hn n'),if_pos rfl];rfl
  refine rwl (VL ..) ?_;refine rwl (show vE (E (m+36)) (.t [5,8]) LB (.tup (eJ.map λp=>V.tup [.str p.1,p.2]))=hM (E (m+36)) (.t [5,8]) LB (eJ.map λp=>V.tup [.str p.1,p.2]) from rfl ..) ?_;refine e35 (WK (m+24) s.n s'.n (.ref t) (.str st) (.str us) re (dI ts) (aAt n') eJ w1 w2 none [] s3 o3 d3 (by simp[eJ]) (aF7 hn n')) λw5 w8 s4 e4 n4 g4 o4 Z=>?_;rw[List.nil_append]at o4;unfold lfN at e4;refine rwl (e4 ..) ?_;have d4:s4.h.get s.n=some (.dict (dI ts)):=(g4.h _ (aFG n3) (aFN n')).trans d3;have r4:eA (dI ts) eJ=eA (dI ts) eJ:=rfl;have rl:(eA (dI ts) eJ).length=6:=by unfold eA;rw[aLX];rfl
  have rr:∀q∈eA (dI ts) eJ,q.2.2=[]:=λq hq=>by unfold eA at hq;obtain⟨p,_,rfl⟩:=List.mem_map.mp hq;rfl
  have hw:AA ts st us re=kX st us (iL (dI ts) st) (cM id ((iL (dI ts) st).map (·.1))) (eA (dI ts) eJ++[([82,101,115,117,108,116],re,[])]):=rfl;refine rwl (hw ..) ?_;generalize eA (dI ts) eJ=R at o4 rl rr;generalize dI ts=kvs at d4 kl;simp only[aZ,x_b,mC,gD,aT,aN,aW,aK,aM,cJ,fS,x_c,bH,RE.bind_ok];refine rwl (show Nat.blt (bC [V.str [82,101,115,117,108,116],re]) lim=true from by rw[aD];exact hA (by simp) ..) ?_;refine rwl (jG _ o4 ..) ?_;simp only[aI,RE.bind_ok];refine rwl (kE ..) (rwl (bK o4 ..) (rwl (pA _ _ (by rw[cI];unfold aB;simp;exact aEz rl) ..) ?_));have ea:app (aB R) [V.tup [.str [82,101,115,117,108,116],re]]=aB (R++[([82,101,115,117,108,116],re,[])]):=by rw[cI];unfold aB;rw[aMb];rfl
  refine rwl (ea ..) ?_;generalize hs5:bE s4 s'.n (.list (aB (R++[([82,101,115,117,108,116],re,[])])))=s5;have n5:s5.n=s4.n:=by rw[<- hs5];rfl
  have o5:s5.h.get s'.n=some (.list (aB (R++[([82,101,115,117,108,116],re,[])]))):=by rw[<- hs5,aS _ _ (qW hn n'),if_pos rfl]
  have d5:s5.h.get s.n=some (.dict kvs):=by rw[<- hs5,aS _ _ (qW hn n'),if_neg (aFL n')];exact d4
  simp only[aL,dM,aI,aZ,x_b,MR,aT,aN,aW,aK,aM,x_c];refine rwl (rX d5 (aGe hl kl) ..) ?_;simp only[iB,aZ,x_b,MR,x_c,aT,aN,aW,aK,aM,aL];have dl:=uB kvs [70,69,78] (.str st);have dl2:=uB (fG kvs [70,69,78] (.str st)) [83,101,116,85,112] (.str [49]);generalize hs6:bE s5 s.n (.dict (fG kvs [70,69,78] (.str st)))=s6;have n6:s6.n=s4.n:=by rw[<- hs6];exact n5
  have o6:s6.h.get s'.n=some (.list (aB (R++[([82,101,115,117,108,116],re,[])]))):=by rw[<- hs6,aS _ _ (jX hn),if_neg (aAr n')];exact o5
  have d6:s6.h.get s.n=some (.dict (fG kvs [70,69,78] (.str st))):=by rw[<- hs6,aS _ _ (jX hn),if_pos rfl]
  refine rwl (rX d6 (aJS hl kl dl) ..) ?_;simp only[iB,aZ,x_b,HF,aBL,cJ,aT,aN,aW,aK,aM,bH,RE.bind_ok];replace dl2:=(show fG (fG kvs [70,69,78] (.str st)) [83,101,116,85,112] (.str [49])=iL kvs st from rfl)▸dl2;refine rwl (show fG (fG kvs [70,69,78] (.str st)) [83,101,116,85,112] (.str [49])=iL kvs st from rfl ..) ?_;generalize hs7:bE s6 s.n (.dict (iL kvs st))=s7;have n7:s7.n=s4.n:=by rw[<- hs7];exact n6
  have o7:s7.h.get s'.n=some (.list (aB (R++[([82,101,115,117,108,116],re,[])]))):=by rw[<- hs7,aS _ _ (jX hn),if_neg (aAr n')];exact o6
  have d7:s7.h.get s.n=some (.dict (iL kvs st)):=by rw[<- hs7,aS _ _ (jX hn),if_pos rfl]
  refine rwl (UL d7 (aKr hl kl dl dl2) ..) (rwl (LE ..) ?_);have kl2:(cM id ((iL kvs st).map (·.1))).length=(iL kvs st).length:=by rw[hJ,aLX]
  have km:∀a∈cM id ((iL kvs st).map (·.1)),∃x,cN (iL kvs st) a=some x:=λa ha=>TK (dD.mp ha);generalize cM id ((iL kvs st).map (·.1))=ks at kl2 km;refine rwl (fI _ (aCl hn n3 n4 n7) (by rw[aLX];exact aKB hl kl dl dl2 kl2) ..) ?_;simp only[aL];generalize hs8:aV s7 (.list (ks.map V.str))=s8;have n8:s8.n=s7.n+1:=by rw[<- hs8];rfl
  have g8:Gr s7 s8 s7.n:=by rw[<- hs8];exact fZ _ _ _ (aCl hn n3 n4 n7)
  have c8:s8.h.get s7.n=some (.list (ks.map V.str)):=by rw[<- hs8,aY _ (aCl hn n3 n4 n7),if_pos rfl]
  have o8:=(g8.h _ (VU n' n3 n4 n7) (aKz n' n3 n4 n7)).trans o7;have d8:=(g8.h _ (aD3 n3 n4 n7) (aKi n3 n4 n7)).trans d7;refine rwl (EB c8 ..) ?_;refine aLJ λaA=>?_;obtain⟨w,s9,e9,g9,o9⟩:=QN (m+12) s.n s'.n s7.n (.ref t) re w2 w8 st us (iL kvs st) ks km (aAt n') (aKy n' n3 n4 n7) (ks.map V.str).length 0 w5 _ s8 (by simp) c8 o8 d8 (λq hq=>by
   rcases List.mem_append.mp hq with h|h;.exact rr q h
   .rw[List.mem_singleton.mp h]) (by simp;exact aKG hl rl kl dl dl2 kl2) (by simp;exact aKH hl hn n3 n4 kl dl dl2 n7 kl2 n8) (aKF n' n3 n4 n7 n8) (aKv n3 n4 n7 n8) (aAs n8)
  unfold lfN at e9;refine aA ?_;refine rwl (e9 ..) ?_;simp only[aZ,x_b,nH,aT,aN,aW,aK,aM,aL,mL,MT];refine SU s9 s'.n rfl nd' (aFM n') ?_ (by rw[o9,List.drop_zero]);refine⟨by have:=g9.n;exact aKE n3 n4 n7 n8 this,λi h1 h2=>?_⟩;refine rwl (g9.h i (aKD n3 n4 n7 n8 h1) (aAU n' h1) ..) (rwl (g8.h i (aKx n3 n4 n7 h1) (aKw n3 n4 n7 h1) ..) (rwr (hs7 ..) (rwl (aS _ _ (jX hn) ..) (rwl (if_neg (IE h2) ..) (rwr (hs6 ..) (rwl (aS _ _ (jX hn) ..) (rwl (if_neg (IE h2) ..) (rwr (hs5 ..) (rwl (aS _ _ (qW hn n') ..) (rwl (if_neg (aHo n' h1) ..) (rwl (g4.h i (aHl n3 h1) (aAU n' h1) ..) (rwl (gg.h i (aHp n' h1) (aAS n3 h1) ..) ?_))))))))))));exact g'.h i h1 h2
def iv(l:List Int):List V:=iK V.int l
def mkS(os:List O):St->St:=List.rec (λs=>s) (λo Z ih s=>ih (aV s o)) os
def aF(os:List O):St:=mkS os ⟨.nil,0⟩
theorem QJ:∀(os:List O) (o:O) (s:St),mkS (os++[o]) s=aV (mkS os s) o:=by
 intro x9;induction x9 with
 |nil=>intro o s;exact rfl
 |cons x os aQ=>intro o s;exact aQ o (aV s x)
theorem KW(os:List O)(o:O):aV (aF os) o=aF (os++[o]):=(QJ os o _).symm
theorem aHJ:∀(os:List O) (s:St),(mkS os s).n=s.n+os.length:=by
 intro x9;induction x9 with
 |nil=>intro s;exact rfl
 |cons x os aQ=>intro s;show(mkS os (aV s x)).n=_;rw[aQ];simp[bN];exact OP
theorem FK(os:List O):(aF os).n=os.length:=by unfold aF;rw[aHJ];simp
theorem WB:∀(os:List O) (s:St) (i:Nat),s.n+os.length<1000->(mkS os s).h.get i=if i<s.n then s.h.get i else if i<s.n+os.length then os[i-s.n]? else s.h.get i:=by
 intro x9;induction x9 with
 |nil=>
  intro s i _;refine(?_:s.h.get i=_);by_cases q:i<s.n;.rw[if_pos q]
  .exact rwl (if_neg q ..) (rwl (if_neg (by simpa using q) ..) rfl)
 |cons x os aQ=>
  intro s i h;simp only[List.length_cons]at h|-;show(mkS os (aV s x)).h.get i=_;rw[aQ (aV s x) i (by rw[bN];exact aAJ h),bN,aY _ (aAI h)];by_cases q:i<s.n;.rw[if_pos (IG q),if_neg (qU q),if_pos q]
  .by_cases q2:i=s.n;.subst q2;simp
   .rw[if_neg (aFg q q2),if_neg q,if_neg q2];have e:i-s.n=(i-(s.n+1))+1:=aFh q q2;by_cases q3:i<s.n+1+os.length;.rw[if_pos q3,if_pos (aJQ q3),e,List.getElem?_cons_succ]
    .rw[if_neg q3,if_neg (aG4 q3)]
theorem BS(os:List O)(h:os.length<1000)(i:Nat):(aF os).h.get i=os[i]?:=by
 unfold aF;refine rwl (WB os _ i (by simpa using h) ..) ?_;simp only[Nat.not_lt_zero,if_false,Nat.zero_add,Nat.sub_zero];split;.rfl
 .exact rwl (Tr.get_nil ..) (rwl (List.getElem?_eq_none (aFj ‹_›) ..) rfl)
noncomputable def us0:List Nat:=[114,49,107,114,47,112,112,112,112,47,52,47,80,80,80,80,47,82,49,75,82,32,119,32,45,32,45,32,48,32,49]
noncomputable def kW:List Nat:=[107,51,47,52,47,52,47,52,47,51,75,32,98,32,45,32,45,32,53,32,54]
noncomputable def us1:List Nat:=[114,50,107,50,114,47,55,47,82,50,75,50,82,32,119,32,75,81,107,113,32,45,32,48,32,49]
noncomputable def kU:List Nat:=[107,54,47,55,47,54,75,32,98,32,45,32,45,32,53,32,54]
noncomputable def us2:List Nat:=[114,50,107,49,114,47,112,112,112,112,112,112,47,54,47,80,80,80,80,80,80,47,82,50,75,49,82,32,119,32,81,113,32,45,32,48,32,49]
noncomputable def kT:List Nat:=[107,53,47,54,47,54,47,54,47,53,75,32,98,32,45,32,45,32,53,32,54]
noncomputable def us3:List Nat:=[114,110,98,113,107,98,110,114,47,112,112,112,112,112,112,112,112,47,56,47,56,47,56,47,56,47,80,80,80,80,80,80,80,80,47,82,78,66,81,75,66,78,82,32,119,32,75,81,107,113,32,45,32,48,32,49]
noncomputable def kR:List Nat:=[107,55,47,56,47,56,47,56,47,56,47,56,47,56,47,55,75,32,98,32,45,32,45,32,53,32,54]
noncomputable def mF:List (List Nat×List Nat):=[(sq2,sq2),(sq1,sq1),(sq3,sq9),(sq8,[]),(sq5,[]),(sq4,[]),(sq6,[]),(sq7,[])]
def knL(us lone:List Nat)(z:Bool):List V:=.tup [.str us,.str us]::.tup [.str lone,.str lone]::iK (λp=>.tup [.str p.1,.str (sel z p.2 [])]) mF
def stT(us lone:List Nat)(z:Bool):List (List Nat):=us::lone::sel z [sq2,sq1,sq9] []
def stL(us lone:List Nat)(z:Bool):List V:=iK V.str (stT us lone z)
def aHO:List O:=[(.inst 6 [(5,(.int 4)),(6,(.int 5)),(7,(.int 20)),(8,(.int 1048575)),(9,(.bool true)),(10,(.bool true)),(11,(.ref 2)),(12,(.ref 3)),(13,(.ref 4)),(14,(.ref 13)),(15,(.ref 6)),(16,(.ref 9)),(17,(.ref 10)),(18,(.ref 31))]),(.list (iv [69905,139810,279620,559240])),(.list (iv [15,240,3840,61440,983040])),(.list [(.ref 15),(.ref 17),(.ref 19),(.ref 21),(.ref 23),(.ref 25),(.ref 27),(.ref 29)]),(.list []),(.list (iv [576,1408,2576,1056,9220,22536,41217,16898,147522,360581,659482,270372,263200,526416,65952,131648,16896,34048,6656,9216])),(.list (iv [32,80,160,64,512,1280,2560,1024,8192,20480,40960,16384,131072,327680,655360,262144,0,0,0,0])),(.list (iv [0,0,0,0,2,5,10,4,32,80,160,64,512,1280,2560,1024,8192,20480,40960,16384])),(.list [(.ref 7),(.ref 8)]),(.list [.none,.none,.none,.none]),(.list []),(.list [(.int 0)]),(.list (iv [50,117,234,196,803,1879,3758,3148,12848,30064,60128,50368,205568,481024,962048,805888,143360,356352,712704,311296])),(.list [(.int 0)]),(.list (iv [69904,139808,279616,559232,69888,139776,279552,559104,69632,139264,278528,557056,65536,131072,262144,524288,0,0,0,0])),(.list [(.int 0)]),(.list (iv [14,12,8,0,224,192,128,0,3584,3072,2048,0,57344,49152,32768,0,917504,786432,524288,0])),(.list [(.int 0)]),(.list (iv [0,0,0,0,1,2,4,8,17,34,68,136,273,546,1092,2184,4369,8738,17476,34952])),(.list [(.int 0)]),(.list (iv [0,1,3,7,0,16,48,112,0,256,768,1792,0,4096,12288,28672,0,65536,196608,458752])),(.list [(.int 0)]),(.list (iv [33824,2112,128,0,541184,33792,2048,0,270336,540672,32768,0,131072,262144,524288,0,0,0,0,0])),(.list [(.int 0)]),(.list (iv [0,0,0,0,2,4,8,0,36,72,128,0,584,1152,2048,0,9344,18432,32768,0])),(.list [(.int 0)]),(.list (iv [0,0,0,0,0,1,2,4,0,16,33,66,0,256,528,1057,0,4096,8448,16912])),(.list [(.int 0)]),(.list (iv [0,16,288,4672,0,256,4608,74752,0,4096,73728,147456,0,65536,131072,262144,0,0,0,0])),(.list [(.int 0)]),(.list (iv [0,0,0,0,0,0,0,0,0,0,0,0,0,0,0,0,0,0,0,0])),(.list [(.int 0)]),(.list (iv [0,0,0,0,0,0,0,0,0,0,0,0,0,0,0,0,0,0,0,0])),(.list [(.ref 33)]),(.list [(.ref 33),(.ref 33),(.ref 33),(.ref 33),(.ref 33),(.ref 33),(.ref 33),(.ref 33),(.ref 33),(.ref 33),(.ref 33),(.ref 33),(.ref 33),(.ref 33),(.ref 33)]),(.list [(.int 0)]),(.list (iv [0,0,0,0])),(.list [(.int 0)]),(.list (iv [0,0,0,0,0,0,0,0,0,0,0,0,0,0,0,0])),(.inst 7 [(19,(.ref 35)),(20,(.ref 37)),(21,(.ref 39)),(22,(.int 0))]),(.list [(.str [82])]),(.list [(.str [46])]),(.list [(.str [46]),(.str [46])]),(.list [(.str [82]),(.str [46]),(.str [46])]),(.list [(.str [82])]),(.list [(.str [82]),(.str [46]),(.str [75]),(.str [82])]),(.list [(.str [114,46,107,114]),(.str [46,46,46,46]),(.str [82,46,75,82])]),(.list [(.str [114,46,107,114]),(.str [112,112,112,112]),(.str [46,46,46,46]),(.str [80,80,80,80]),(.str [82,46,75,82])]),(.list [(.str [107,51])]),(.list [(.str [52])]),(.list [(.str [52]),(.str [52]),(.str [52])]),(.list [(.str [107,51]),(.str [52]),(.str [52]),(.str [52])]),(.list [(.str [51,75])]),(.list [(.str [107,51]),(.str [52]),(.str [52]),(.str [52]),(.str [51,75])]),(.list [(.tup [(.str us0),(.str us0)]),(.tup [(.str kW),(.str kW)])]),(.list [(.tup [(.str sq2),(.str sq2)]),(.tup [(.str sq1),(.str sq1)]),(.tup [(.str sq3),(.str sq9)]),(.tup [(.str sq8),(.str [])]),(.tup [(.str sq5),(.str [])]),(.tup [(.str sq4),(.str [])]),(.tup [(.str sq6),(.str [])]),(.tup [(.str sq7),(.str [])])]),.list (knL us0 kW true),.list (stL us0 kW true)]
def aHN:List O:=[(.inst 6 [(5,(.int 7)),(6,(.int 3)),(7,(.int 21)),(8,(.int 2097151)),(9,(.bool false)),(10,(.bool true)),(11,(.ref 2)),(12,(.ref 3)),(13,(.ref 4)),(14,(.ref 13)),(15,(.ref 6)),(16,(.ref 9)),(17,(.ref 10)),(18,(.ref 31))]),(.list (iv [16513,33026,66052,132104,264208,528416,1056832])),(.list (iv [127,16256,2080768])),(.list [(.ref 15),(.ref 17),(.ref 19),(.ref 21),(.ref 23),(.ref 25),(.ref 27),(.ref 29)]),(.list []),(.list (iv [33280,82944,166016,332032,664064,1311744,526336,65540,131080,278545,557090,1114180,131080,262160,514,1029,2186,4372,8744,1104,2080])),(.list (iv [256,640,1280,2560,5120,10240,4096,32768,81920,163840,327680,655360,1310720,524288,0,0,0,0,0,0,0])),(.list (iv [0,0,0,0,0,0,0,2,5,10,20,40,80,32,256,640,1280,2560,5120,10240,4096])),(.list [(.ref 7),(.ref 8)]),(.list [(.tup (iv [3,5,6,4])),(.tup (iv [3,1,0,2])),(.tup (iv [17,19,20,18])),(.tup (iv [17,15,14,16]))]),(.list []),(.list [(.int 0)]),(.list (iv [386,901,1802,3604,7208,14416,12320,49411,115335,230670,461340,922680,1845360,1577056,33152,82816,165632,331264,662528,1325056,536576])),(.list [(.int 0)]),(.list (iv [16512,33024,66048,132096,264192,528384,1056768,16384,32768,65536,131072,262144,524288,1048576,0,0,0,0,0,0,0])),(.list [(.int 0)]),(.list (iv [126,124,120,112,96,64,0,16128,15872,15360,14336,12288,8192,0,2064384,2031616,1966080,1835008,1572864,1048576,0])),(.list [(.int 0)]),(.list (iv [0,0,0,0,0,0,0,1,2,4,8,16,32,64,129,258,516,1032,2064,4128,8256])),(.list [(.int 0)]),(.list (iv [0,1,3,7,15,31,63,0,128,384,896,1920,3968,8064,0,16384,49152,114688,245760,507904,1032192])),(.list [(.int 0)]),(.list (iv [65792,131584,263168,526336,1052672,8192,0,32768,65536,131072,262144,524288,1048576,0,0,0,0,0,0,0,0])),(.list [(.int 0)]),(.list (iv [0,0,0,0,0,0,0,2,4,8,16,32,64,0,260,520,1040,2080,4160,8192,0])),(.list [(.int 0)]),(.list (iv [0,0,0,0,0,0,0,0,1,2,4,8,16,32,0,128,257,514,1028,2056,4112])),(.list [(.int 0)]),(.list (iv [0,128,16640,33280,66560,133120,266240,0,16384,32768,65536,131072,262144,524288,0,0,0,0,0,0,0])),(.list [(.int 0)]),(.list (iv [2,0,0,3,0,0,1,0,0,0,0,0,0,0,8,0,0,12,0,0,4])),(.list [(.int 0)]),(.list (iv [0,0,0,0,0,0,0,0,0,0,0,0,0,0,0,0,0,0,0,0,0])),(.list [(.ref 33)]),(.list [(.ref 33),(.ref 33),(.ref 33),(.ref 33),(.ref 33),(.ref 33),(.ref 33),(.ref 33),(.ref 33),(.ref 33),(.ref 33),(.ref 33),(.ref 33),(.ref 33),(.ref 33)]),(.list [(.int 0)]),(.list (iv [0,0,0,0,0,0,0])),(.list [(.int 0)]),(.list (iv [0,0,0,0,0,0,0,0,0,0,0,0,0,0,0,0])),(.inst 7 [(19,(.ref 35)),(20,(.ref 37)),(21,(.ref 39)),(22,(.int 0))]),(.list [(.str [82])]),(.list [(.str [46])]),(.list [(.str [46]),(.str [46]),(.str [46]),(.str [46]),(.str [46])]),(.list [(.str [82]),(.str [46]),(.str [46]),(.str [46]),(.str [46]),(.str [46])]),(.list [(.str [82])]),(.list [(.str [82]),(.str [46]),(.str [46]),(.str [75]),(.str [46]),(.str [46]),(.str [82])]),(.list [(.str [114,46,46,107,46,46,114]),(.str [46,46,46,46,46,46,46]),(.str [82,46,46,75,46,46,82])]),(.list [(.str [107,54])]),(.list [(.str [55])]),(.list [(.str [55])]),(.list [(.str [107,54]),(.str [55])]),(.list [(.str [54,75])]),(.list [(.str [107,54]),(.str [55]),(.str [54,75])]),(.list [(.tup [(.str us1),(.str us1)]),(.tup [(.str kU),(.str kU)])]),(.list [(.tup [(.str sq2),(.str [])]),(.tup [(.str sq1),(.str [])]),(.tup [(.str sq3),(.str [])]),(.tup [(.str sq8),(.str [])]),(.tup [(.str sq5),(.str [])]),(.tup [(.str sq4),(.str [])]),(.tup [(.str sq6),(.str [])]),(.tup [(.str sq7),(.str [])])]),.list (knL us1 kU false),.list (stL us1 kU false)]
def aHL:List O:=[(.inst 6 [(5,(.int 6)),(6,(.int 5)),(7,(.int 30)),(8,(.int 1073741823)),(9,(.bool true)),(10,(.bool true)),(11,(.ref 2)),(12,(.ref 3)),(13,(.ref 4)),(14,(.ref 13)),(15,(.ref 6)),(16,(.ref 9)),(17,(.ref 10)),(18,(.ref 31))]),(.list (iv [17043521,34087042,68174084,136348168,272696336,545392672])),(.list (iv [63,4032,258048,16515072,1056964608])),(.list [(.ref 15),(.ref 17),(.ref 19),(.ref 21),(.ref 23),(.ref 25),(.ref 27),(.ref 29)]),(.list []),(.list (iv [8448,20992,42048,84096,164096,66048,540676,1343496,2691089,5382178,10502148,4227080,34603266,85983749,172229706,344459412,672137512,270533136,67125376,134250816,285282944,570565888,67127808,134251520,1056768,2117632,4497408,8994816,1212416,2162688])),(.list (iv [128,320,640,1280,2560,1024,8192,20480,40960,81920,163840,65536,524288,1310720,2621440,5242880,10485760,4194304,33554432,83886080,167772160,335544320,671088640,268435456,0,0,0,0,0,0])),(.list (iv [0,0,0,0,0,0,2,5,10,20,40,16,128,320,640,1280,2560,1024,8192,20480,40960,81920,163840,65536,524288,1310720,2621440,5242880,10485760,4194304])),(.list [(.ref 7),(.ref 8)]),(.list [.none,(.tup (iv [3,1,0,2])),.none,(.tup (iv [27,25,24,26]))]),(.list []),(.list [(.int 0)]),(.list (iv [194,453,906,1812,3624,3088,12419,28999,57998,115996,231992,197680,794816,1855936,3711872,7423744,14847488,12651520,50868224,118779904,237559808,475119616,950239232,809697280,34340864,85721088,171442176,342884352,685768704,281018368])),(.list [(.int 0)]),(.list (iv [17043520,34087040,68174080,136348160,272696320,545392640,17043456,34086912,68173824,136347648,272695296,545390592,17039360,34078720,68157440,136314880,272629760,545259520,16777216,33554432,67108864,134217728,268435456,536870912,0,0,0,0,0,0])),(.list [(.int 0)]),(.list (iv [62,60,56,48,32,0,3968,3840,3584,3072,2048,0,253952,245760,229376,196608,131072,0,16252928,15728640,14680064,12582912,8388608,0,1040187392,1006632960,939524096,805306368,536870912,0])),(.list [(.int 0)]),(.list (iv [0,0,0,0,0,0,1,2,4,8,16,32,65,130,260,520,1040,2080,4161,8322,16644,33288,66576,133152,266305,532610,1065220,2130440,4260880,8521760])),(.list [(.int 0)]),(.list (iv [0,1,3,7,15,31,0,64,192,448,960,1984,0,4096,12288,28672,61440,126976,0,262144,786432,1835008,3932160,8126464,0,16777216,50331648,117440512,251658240,520093696])),(.list [(.int 0)]),(.list (iv [270549120,541098240,8454656,132096,2048,0,135274496,270548992,541097984,8454144,131072,0,67633152,135266304,270532608,541065216,8388608,0,33554432,67108864,134217728,268435456,536870912,0,0,0,0,0,0,0])),(.list [(.int 0)]),(.list (iv [0,0,0,0,0,0,2,4,8,16,32,0,132,264,528,1056,2048,0,8456,16912,33824,67584,131072,0,541200,1082400,2164736,4325376,8388608,0])),(.list [(.int 0)]),(.list (iv [0,0,0,0,0,0,0,1,2,4,8,16,0,64,129,258,516,1032,0,4096,8256,16513,33026,66052,0,262144,528384,1056832,2113665,4227330])),(.list [(.int 0)]),(.list (iv [0,64,4224,270592,17318400,34636800,0,4096,270336,17317888,34635776,69271552,0,262144,17301504,34603008,69206016,138412032,0,16777216,33554432,67108864,134217728,268435456,0,0,0,0,0,0])),(.list [(.int 0)]),(.list (iv [2,0,0,2,0,0,0,0,0,0,0,0,0,0,0,0,0,0,0,0,0,0,0,0,8,0,0,8,0,0])),(.list [(.int 0)]),(.list (iv [0,0,0,0,0,0,0,0,0,0,0,0,0,0,0,0,0,0,0,0,0,0,0,0,0,0,0,0,0,0])),(.list [(.ref 33)]),(.list [(.ref 33),(.ref 33),(.ref 33),(.ref 33),(.ref 33),(.ref 33),(.ref 33),(.ref 33),(.ref 33),(.ref 33),(.ref 33),(.ref 33),(.ref 33),(.ref 33),(.ref 33)]),(.list [(.int 0)]),(.list (iv [0,0,0,0,0,0])),(.list [(.int 0)]),(.list (iv [0,0,0,0,0,0,0,0,0,0,0,0,0,0,0,0])),(.inst 7 [(19,(.ref 35)),(20,(.ref 37)),(21,(.ref 39)),(22,(.int 0))]),(.list [(.str [82])]),(.list [(.str [46])]),(.list [(.str [46]),(.str [46]),(.str [46]),(.str [46])]),(.list [(.str [82]),(.str [46]),(.str [46]),(.str [46]),(.str [46])]),(.list [(.str [82])]),(.list [(.str [82]),(.str [46]),(.str [46]),(.str [75]),(.str [46]),(.str [82])]),(.list [(.str [114,46,46,107,46,114]),(.str [46,46,46,46,46,46]),(.str [82,46,46,75,46,82])]),(.list [(.str [114,46,46,107,46,114]),(.str [112,112,112,112,112,112]),(.str [46,46,46,46,46,46]),(.str [80,80,80,80,80,80]),(.str [82,46,46,75,46,82])]),(.list [(.str [107,53])]),(.list [(.str [54])]),(.list [(.str [54]),(.str [54]),(.str [54])]),(.list [(.str [107,53]),(.str [54]),(.str [54]),(.str [54])]),(.list [(.str [53,75])]),(.list [(.str [107,53]),(.str [54]),(.str [54]),(.str [54]),(.str [53,75])]),(.list [(.tup [(.str us2),(.str us2)]),(.tup [(.str kT),(.str kT)])]),(.list [(.tup [(.str sq2),(.str [])]),(.tup [(.str sq1),(.str [])]),(.tup [(.str sq3),(.str [])]),(.tup [(.str sq8),(.str [])]),(.tup [(.str sq5),(.str [])]),(.tup [(.str sq4),(.str [])]),(.tup [(.str sq6),(.str [])]),(.tup [(.str sq7),(.str [])])]),.list (knL us2 kT false),.list (stL us2 kT false)]
def aHK:List O:=[(.inst 6 [(5,(.int 8)),(6,(.int 8)),(7,(.int 64)),(8,(.int 18446744073709551615)),(9,(.bool true)),(10,(.bool true)),(11,(.ref 2)),(12,(.ref 3)),(13,(.ref 4)),(14,(.ref 13)),(15,(.ref 6)),(16,(.ref 9)),(17,(.ref 10)),(18,(.ref 31))]),(.list (iv [72340172838076673,144680345676153346,289360691352306692,578721382704613384,1157442765409226768,2314885530818453536,4629771061636907072,9259542123273814144])),(.list (iv [255,65280,16711680,4278190080,1095216660480,280375465082880,71776119061217280,18374686479671623680])),(.list [(.ref 15),(.ref 17),(.ref 19),(.ref 21),(.ref 23),(.ref 25),(.ref 27),(.ref 29)]),(.list []),(.list (iv [132096,329728,659712,1319424,2638848,5277696,10489856,4202496,33816580,84410376,168886289,337772578,675545156,1351090312,2685403152,1075839008,8657044482,21609056261,43234889994,86469779988,172939559976,345879119952,687463207072,275414786112,2216203387392,5531918402816,11068131838464,22136263676928,44272527353856,88545054707712,175990581010432,70506185244672,567348067172352,1416171111120896,2833441750646784,5666883501293568,11333767002587136,22667534005174272,45053588738670592,18049583422636032,145241105196122112,362539804446949376,725361088165576704,1450722176331153408,2901444352662306816,5802888705324613632,11533718717099671552,4620693356194824192,288234782788157440,576469569871282176,1224997833292120064,2449995666584240128,4899991333168480256,9799982666336960512,1152939783987658752,2305878468463689728,1128098930098176,2257297371824128,4796069720358912,9592139440717824,19184278881435648,38368557762871296,4679521487814656,9077567998918656])),(.list (iv [512,1280,2560,5120,10240,20480,40960,16384,131072,327680,655360,1310720,2621440,5242880,10485760,4194304,33554432,83886080,167772160,335544320,671088640,1342177280,2684354560,1073741824,8589934592,21474836480,42949672960,85899345920,171798691840,343597383680,687194767360,274877906944,2199023255552,5497558138880,10995116277760,21990232555520,43980465111040,87960930222080,175921860444160,70368744177664,562949953421312,1407374883553280,2814749767106560,5629499534213120,11258999068426240,22517998136852480,45035996273704960,18014398509481984,144115188075855872,360287970189639680,720575940379279360,1441151880758558720,2882303761517117440,5764607523034234880,11529215046068469760,4611686018427387904,0,0,0,0,0,0,0,0])),(.list (iv [0,0,0,0,0,0,0,0,2,5,10,20,40,80,160,64,512,1280,2560,5120,10240,20480,40960,16384,131072,327680,655360,1310720,2621440,5242880,10485760,4194304,33554432,83886080,167772160,335544320,671088640,1342177280,2684354560,1073741824,8589934592,21474836480,42949672960,85899345920,171798691840,343597383680,687194767360,274877906944,2199023255552,5497558138880,10995116277760,21990232555520,43980465111040,87960930222080,175921860444160,70368744177664,562949953421312,1407374883553280,2814749767106560,5629499534213120,11258999068426240,22517998136852480,45035996273704960,18014398509481984])),(.list [(.ref 7),(.ref 8)]),(.list [(.tup (iv [4,6,7,5])),(.tup (iv [4,2,0,3])),(.tup (iv [60,62,63,61])),(.tup (iv [60,58,56,59]))]),(.list []),(.list [(.int 0)]),(.list (iv [770,1797,3594,7188,14376,28752,57504,49216,197123,460039,920078,1840156,3680312,7360624,14721248,12599488,50463488,117769984,235539968,471079936,942159872,1884319744,3768639488,3225468928,12918652928,30149115904,60298231808,120596463616,241192927232,482385854464,964771708928,825720045568,3307175149568,7718173671424,15436347342848,30872694685696,61745389371392,123490778742784,246981557485568,211384331665408,846636838289408,1975852459884544,3951704919769088,7903409839538176,15806819679076352,31613639358152704,63227278716305408,54114388906344448,216739030602088448,505818229730443264,1011636459460886528,2023272918921773056,4046545837843546112,8093091675687092224,16186183351374184448,13853283560024178688,144959613005987840,362258295026614272,724516590053228544,1449033180106457088,2898066360212914176,5796132720425828352,11592265440851656704,4665729213955833856])),(.list [(.int 0)]),(.list (iv [72340172838076672,144680345676153344,289360691352306688,578721382704613376,1157442765409226752,2314885530818453504,4629771061636907008,9259542123273814016,72340172838076416,144680345676152832,289360691352305664,578721382704611328,1157442765409222656,2314885530818445312,4629771061636890624,9259542123273781248,72340172838010880,144680345676021760,289360691352043520,578721382704087040,1157442765408174080,2314885530816348160,4629771061632696320,9259542123265392640,72340172821233664,144680345642467328,289360691284934656,578721382569869312,1157442765139738624,2314885530279477248,4629771060558954496,9259542121117908992,72340168526266368,144680337052532736,289360674105065472,578721348210130944,1157442696420261888,2314885392840523776,4629770785681047552,9259541571362095104,72339069014638592,144678138029277184,289356276058554368,578712552117108736,1157425104234217472,2314850208468434944,4629700416936869888,9259400833873739776,72057594037927936,144115188075855872,288230376151711744,576460752303423488,1152921504606846976,2305843009213693952,4611686018427387904,9223372036854775808,0,0,0,0,0,0,0,0])),(.list [(.int 0)]),(.list (iv [254,252,248,240,224,192,128,0,65024,64512,63488,61440,57344,49152,32768,0,16646144,16515072,16252928,15728640,14680064,12582912,8388608,0,4261412864,4227858432,4160749568,4026531840,3758096384,3221225472,2147483648,0,1090921693184,1082331758592,1065151889408,1030792151040,962072674304,824633720832,549755813888,0,279275953455104,277076930199552,272678883688448,263882790666240,246290604621824,211106232532992,140737488355328,0,71494644084506624,70931694131085312,69805794224242688,67553994410557440,63050394783186944,54043195528445952,36028797018963968,0,18302628885633695744,18158513697557839872,17870283321406128128,17293822569102704640,16140901064495857664,13835058055282163712,9223372036854775808,0])),(.list [(.int 0)]),(.list (iv [0,0,0,0,0,0,0,0,1,2,4,8,16,32,64,128,257,514,1028,2056,4112,8224,16448,32896,65793,131586,263172,526344,1052688,2105376,4210752,8421504,16843009,33686018,67372036,134744072,269488144,538976288,1077952576,2155905152,4311810305,8623620610,17247241220,34494482440,68988964880,137977929760,275955859520,551911719040,1103823438081,2207646876162,4415293752324,8830587504648,17661175009296,35322350018592,70644700037184,141289400074368,282578800148737,565157600297474,1130315200594948,2260630401189896,4521260802379792,9042521604759584,18085043209519168,36170086419038336])),(.list [(.int 0)]),(.list (iv [0,1,3,7,15,31,63,127,0,256,768,1792,3840,7936,16128,32512,0,65536,196608,458752,983040,2031616,4128768,8323072,0,16777216,50331648,117440512,251658240,520093696,1056964608,2130706432,0,4294967296,12884901888,30064771072,64424509440,133143986176,270582939648,545460846592,0,1099511627776,3298534883328,7696581394432,16492674416640,34084860461056,69269232549888,139637976727552,0,281474976710656,844424930131968,1970324836974592,4222124650659840,8725724278030336,17732923532771328,35747322042253312,0,72057594037927936,216172782113783808,504403158265495552,1080863910568919040,2233785415175766016,4539628424389459968,9151314442816847872])),(.list [(.int 0)]),(.list (iv [9241421688590303744,36099303471055872,141012904183808,550831656960,2151686144,8404992,32768,0,4620710844295151616,9241421688590303232,36099303471054848,141012904181760,550831652864,2151677952,8388608,0,2310355422147510272,4620710844295020544,9241421688590041088,36099303470530560,141012903133184,550829555712,2147483648,0,1155177711056977920,2310355422113955840,4620710844227911680,9241421688455823360,36099303202095104,141012366262272,549755813888,0,577588851233521664,1155177702467043328,2310355404934086656,4620710809868173312,9241421619736346624,36099165763141632,140737488355328,0,288793326105133056,577586652210266112,1155173304420532224,2310346608841064448,4620693217682128896,9241386435364257792,36028797018963968,0,144115188075855872,288230376151711744,576460752303423488,1152921504606846976,2305843009213693952,4611686018427387904,9223372036854775808,0,0,0,0,0,0,0,0,0])),(.list [(.int 0)]),(.list (iv [0,0,0,0,0,0,0,0,2,4,8,16,32,64,128,0,516,1032,2064,4128,8256,16512,32768,0,132104,264208,528416,1056832,2113664,4227072,8388608,0,33818640,67637280,135274560,270549120,541097984,1082130432,2147483648,0,8657571872,17315143744,34630287488,69260574720,138521083904,277025390592,549755813888,0,2216338399296,4432676798592,8865353596928,17730707128320,35461397479424,70918499991552,140737488355328,0,567382630219904,1134765260439552,2269530520813568,4539061024849920,9078117754732544,18155135997837312,36028797018963968,0])),(.list [(.int 0)]),(.list (iv [0,0,0,0,0,0,0,0,0,1,2,4,8,16,32,64,0,256,513,1026,2052,4104,8208,16416,0,65536,131328,262657,525314,1050628,2101256,4202512,0,16777216,33619968,67240192,134480385,268960770,537921540,1075843080,0,4294967296,8606711808,17213489152,34426978560,68853957121,137707914242,275415828484,0,1099511627776,2203318222848,4406653222912,8813306511360,17626613022976,35253226045953,70506452091906,0,281474976710656,564049465049088,1128103225065472,2256206466908160,4512412933881856,9024825867763968,18049651735527937])),(.list [(.int 0)]),(.list (iv [0,256,66048,16909312,4328785920,1108169199616,283691315109888,72624976668147712,0,65536,16908288,4328783872,1108169195520,283691315101696,72624976668131328,145249953336262656,0,16777216,4328521728,1108168671232,283691314053120,72624976666034176,145249953332068352,290499906664136704,0,4294967296,1108101562368,283691179835392,72624976397598720,145249952795197440,290499905590394880,580999811180789760,0,1099511627776,283673999966208,72624942037860352,145249884075720704,290499768151441408,580999536302882816,1161999072605765632,0,281474976710656,72620543991349248,145241087982698496,290482175965396992,580964351930793984,1161928703861587968,2323857407723175936,0,72057594037927936,144115188075855872,288230376151711744,576460752303423488,1152921504606846976,2305843009213693952,4611686018427387904,0,0,0,0,0,0,0,0])),(.list [(.int 0)]),(.list (iv [2,0,0,0,3,0,0,1,0,0,0,0,0,0,0,0,0,0,0,0,0,0,0,0,0,0,0,0,0,0,0,0,0,0,0,0,0,0,0,0,0,0,0,0,0,0,0,0,0,0,0,0,0,0,0,0,8,0,0,0,12,0,0,4])),(.list [(.int 0)]),(.list (iv [0,0,0,0,0,0,0,0,0,0,0,0,0,0,0,0,0,0,0,0,0,0,0,0,0,0,0,0,0,0,0,0,0,0,0,0,0,0,0,0,0,0,0,0,0,0,0,0,0,0,0,0,0,0,0,0,0,0,0,0,0,0,0,0])),(.list [(.ref 33)]),(.list [(.ref 33),(.ref 33),(.ref 33),(.ref 33),(.ref 33),(.ref 33),(.ref 33),(.ref 33),(.ref 33),(.ref 33),(.ref 33),(.ref 33),(.ref 33),(.ref 33),(.ref 33)]),(.list [(.int 0)]),(.list (iv [0,0,0,0,0,0,0,0])),(.list [(.int 0)]),(.list (iv [0,0,0,0,0,0,0,0,0,0,0,0,0,0,0,0])),(.inst 7 [(19,(.ref 35)),(20,(.ref 37)),(21,(.ref 39)),(22,(.int 0))]),(.list [(.str [107,55])]),(.list [(.str [56])]),(.list [(.str [56]),(.str [56]),(.str [56]),(.str [56]),(.str [56]),(.str [56])]),(.list [(.str [107,55]),(.str [56]),(.str [56]),(.str [56]),(.str [56]),(.str [56]),(.str [56])]),(.list [(.str [55,75])]),(.list [(.str [107,55]),(.str [56]),(.str [56]),(.str [56]),(.str [56]),(.str [56]),(.str [56]),(.str [55,75])]),(.list [(.tup [(.str us3),(.str us3)]),(.tup [(.str kR),(.str kR)])]),(.list [(.tup [(.str sq2),(.str [])]),(.tup [(.str sq1),(.str [])]),(.tup [(.str sq3),(.str [])]),(.tup [(.str sq8),(.str [])]),(.tup [(.str sq5),(.str [])]),(.tup [(.str sq4),(.str [])]),(.tup [(.str sq6),(.str [])]),(.tup [(.str sq7),(.str [])])]),.list (knL us3 kR false),.list (stL us3 kR false)]
theorem aJK(vs:List V)(a0 a1 a2 a3 a4 a5:Int):MD 400 (pP 2 8) (bZ (bZ (l0 vs) 1 (some (.ref 0))) 2 (some (.int 0))) (σn a0 a1 a2 a3 a4 a5) =
 .ok .next [some (.frz vs),some (.ref 0),some (.int 0),some (.int 4),some (.int 5),some (.bool true),some (.str [45]),some (.ref 1),some (.ref 40),some (.str us0),some (.str kW),some (.ref 57),some (.ref 58),some (.ref 59),none,none,none,none,none,none,none,none,none,none,none,none,none]
  (aF (.list [.int a0,.int a1,.int a2,.int a3,.int a4,.int a5]::(aHO++[.list []]))):=by kernel_rfl
theorem aJJ(vs:List V)(a0 a1 a2 a3 a4 a5:Int):MD 400 (pP 2 8) (bZ (bZ (l0 vs) 1 (some (.ref 0))) 2 (some (.int 1))) (σn a0 a1 a2 a3 a4 a5) =
 .ok .next [some (.frz vs),some (.ref 0),some (.int 1),some (.int 7),some (.int 3),some (.bool false),some (.str [75,81,107,113]),some (.ref 1),some (.ref 40),some (.str us1),some (.str kU),some (.ref 56),some (.ref 57),some (.ref 58),none,none,none,none,none,none,none,none,none,none,none,none,none]
  (aF (.list [.int a0,.int a1,.int a2,.int a3,.int a4,.int a5]::(aHN++[.list []]))):=by kernel_rfl
theorem aJI(vs:List V)(a0 a1 a2 a3 a4 a5:Int):MD 400 (pP 2 8) (bZ (bZ (l0 vs) 1 (some (.ref 0))) 2 (some (.int 2))) (σn a0 a1 a2 a3 a4 a5) =
 .ok .next [some (.frz vs),some (.ref 0),some (.int 2),some (.int 6),some (.int 5),some (.bool true),some (.str [81,113]),some (.ref 1),some (.ref 40),some (.str us2),some (.str kT),some (.ref 57),some (.ref 58),some (.ref 59),none,none,none,none,none,none,none,none,none,none,none,none,none]
  (aF (.list [.int a0,.int a1,.int a2,.int a3,.int a4,.int a5]::(aHL++[.list []]))):=by kernel_rfl
theorem aJH(vs:List V)(a0 a1 a2 a3 a4 a5:Int):MD 400 (pP 2 8) (bZ (bZ (l0 vs) 1 (some (.ref 0))) 2 (some (.int 3))) (σn a0 a1 a2 a3 a4 a5) =
 .ok .next [some (.frz vs),some (.ref 0),some (.int 3),some (.int 8),some (.int 8),some (.bool true),some (.str [75,81,107,113]),some (.ref 1),some (.ref 40),some (.str us3),some (.str kR),some (.ref 49),some (.ref 50),some (.ref 51),none,none,none,none,none,none,none,none,none,none,none,none,none]
  (aF (.list [.int a0,.int a1,.int a2,.int a3,.int a4,.int a5]::(aHK++[.list []]))):=by kernel_rfl
noncomputable def okV(r:RE V):Option V:=match r with|.ok v _=>some v|_=>none
noncomputable def VM(r:RE V):St:=match r with|.ok _ s=>s|.exc _ s=>s|.stuck=>⟨.nil,0⟩
def aIi(s:St)(n:Nat):List (Option O):=(List.range n).map λi=>s.h.get i
def ck(r:RE V)(n:Nat):Option V×List (Option O)×Bool:=(okV r,aIi (VM r) n,sel (Nat.ble n (VM r).n) (Nat.blt (VM r).n 900) false)
theorem JQ{r:RE V}{v:V}{os:List O}(h:ck r os.length=(some v,os.map some,true))(hl:os.length<1000):∃s',r=.ok v s'/\Gr (aF os) s' os.length/\s'.n<900:=by
 cases r with
 |ok u s=>unfold ck okV aIi VM at h;dsimp only at h;injection h with h1 h2;injection h2 with h2 h3;cases h1;refine e02 (aX h3) λh3 h4=>⟨s,rfl,⟨by rw[FK];exact aLK h3,λi hi Z=>?_⟩,aC.mp h4⟩;rw[FK]at hi;rw[BS _ hl];have q:=congrArg (λl=>l[i]?) h2;simp only[aL8,List.getElem?_range hi,Option.map_some,aLN hi]at q;rw[aLN hi];exact aLP q
 |exc e s=>cases h
 |stuck=>cases h
noncomputable def kM:List CS:=[(.ifs (.cmp .is_ (.loc 4) (.c .none)) [(.ret (.call 59 [(.call 67 [(.loc 1)]),(.loc 1),(.loc 2)]))] []),
 (.try [(.ret (.call 59 [(.sub (.loc 4) (.c (.int 1))),(.loc 1),(.loc 2)]))] 0 none [(.raise 5 [(.sub (.loc 4) (.c (.int 2))),(.c (.str [110,111,32,112,111,115,105,116,105,111,110]))])])]
def FF(t g z:V)(X:RE V):RE V:=(dY ((E 399).b []) (RS.rec .ok (gG kK (E 399) 5 (some 3) [.ret (.attr (.loc 3) 4)]) .stuck (dY ((E 398).b []) ((X.bind λv s=>(aR (E 397) (aU 64) [v] s)).bs [some t,some g,some z,none] λv s=>.ok (.ret v) [some t,some g,some z,none] s)))).out
theorem WG(t g z:V)(s:St):aR (E 400) (aU 79) [t,g,z] s=FF t g z (aR (E 396) (aU 70) [t,g,z] s):=by have e0:aR (E 400) (aU 79) [t,g,z] s=((E 400).b lF [some t,some g,some z,none] s).out:=rfl;rw[e0];unfold lF FF;simp only[x_b];refine rwl (YJ ..) ?_;simp only[x_b,nH,fJ,cJ,aT,aN,aK,aM,aW,bH,RE.bind_ok];cases aR (E 396) (aU 70) [t,g,z] s<;>rfl
def lst(t:V)(fen su:V)(s:St):RE V:=FF t (.ref 1) (.ref 40) ((E 393).b kM [some t,some (.ref 1),some (.ref 40),some su,some fen] s).out
structure Wd where
 mid:List O
 kn:Nat
 us:List Nat
 lone:List Nat
 z:Bool
noncomputable def Wd.obs(W:Wd)(o0:O)(os:List O):List O:=o0::(W.mid++os)
noncomputable def canon(z:Bool)(p:List Nat×List Nat):List Nat:=if z then p.2 else []
noncomputable def Wd.pairs(W:Wd):List (List Nat×List Nat):=(W.us,W.us)::(W.lone,W.lone)::mF.map λp=>(p.1,canon W.z p)
def UC(c:List Nat)(x:V):V:=sel (gH c) x (.str c)
noncomputable abbrev bP(a:List Nat)(x:V):V:=.tup [.str [70,69,78],.str a,x]
def W0:Wd:=⟨aHO,57,us0,kW,true⟩
def W1:Wd:=⟨aHN,56,us1,kU,false⟩
def W2:Wd:=⟨aHL,57,us2,kT,false⟩
def W3:Wd:=⟨aHK,49,us3,kR,false⟩
theorem kw0(o0 o1 o2:O)(t su x:V):ck (lst t .none su (aF (W0.obs o0 [o1,o2]))) 61=(some (.str us0),(W0.obs o0 [o1,o2]).map some,true)/\
 ck (lst t (bP us0 x) su (aF (W0.obs o0 [o1,o2]))) 61=(some (.str us0),(W0.obs o0 [o1,o2]).map some,true)/\
 ck (lst t (bP kW x) su (aF (W0.obs o0 [o1,o2]))) 61=(some (.str kW),(W0.obs o0 [o1,o2]).map some,true)/\
 ck (lst t (bP sq2 x) su (aF (W0.obs o0 [o1,o2]))) 61=(some (.str sq2),(W0.obs o0 [o1,o2]).map some,true)/\
 ck (lst t (bP sq1 x) su (aF (W0.obs o0 [o1,o2]))) 61=(some (.str sq1),(W0.obs o0 [o1,o2]).map some,true)/\
 ck (lst t (bP sq3 x) su (aF (W0.obs o0 [o1,o2]))) 61=(some (.str sq9),(W0.obs o0 [o1,o2]).map some,true)/\
 ck (lst t (bP sq8 x) su (aF (W0.obs o0 [o1,o2]))) 61=(some (x),(W0.obs o0 [o1,o2]).map some,true)/\
 ck (lst t (bP sq5 x) su (aF (W0.obs o0 [o1,o2]))) 61=(some (x),(W0.obs o0 [o1,o2]).map some,true)/\
 ck (lst t (bP sq4 x) su (aF (W0.obs o0 [o1,o2]))) 61=(some (x),(W0.obs o0 [o1,o2]).map some,true)/\
 ck (lst t (bP sq6 x) su (aF (W0.obs o0 [o1,o2]))) 61=(some (x),(W0.obs o0 [o1,o2]).map some,true)/\
 ck (lst t (bP sq7 x) su (aF (W0.obs o0 [o1,o2]))) 61=(some (x),(W0.obs o0 [o1,o2]).map some,true):=by
 refine⟨?_,?_,?_,?_,?_,?_,?_,?_,?_,?_,?_⟩<;>kernel_rfl
theorem kw1(o0 o1 o2:O)(t su x:V):ck (lst t .none su (aF (W1.obs o0 [o1,o2]))) 60=(some (.str us1),(W1.obs o0 [o1,o2]).map some,true)/\
 ck (lst t (bP us1 x) su (aF (W1.obs o0 [o1,o2]))) 60=(some (.str us1),(W1.obs o0 [o1,o2]).map some,true)/\
 ck (lst t (bP kU x) su (aF (W1.obs o0 [o1,o2]))) 60=(some (.str kU),(W1.obs o0 [o1,o2]).map some,true)/\
 ck (lst t (bP sq2 x) su (aF (W1.obs o0 [o1,o2]))) 60=(some (x),(W1.obs o0 [o1,o2]).map some,true)/\
 ck (lst t (bP sq1 x) su (aF (W1.obs o0 [o1,o2]))) 60=(some (x),(W1.obs o0 [o1,o2]).map some,true)/\
 ck (lst t (bP sq3 x) su (aF (W1.obs o0 [o1,o2]))) 60=(some (x),(W1.obs o0 [o1,o2]).map some,true)/\
 ck (lst t (bP sq8 x) su (aF (W1.obs o0 [o1,o2]))) 60=(some (x),(W1.obs o0 [o1,o2]).map some,true)/\
 ck (lst t (bP sq5 x) su (aF (W1.obs o0 [o1,o2]))) 60=(some (x),(W1.obs o0 [o1,o2]).map some,true)/\
 ck (lst t (bP sq4 x) su (aF (W1.obs o0 [o1,o2]))) 60=(some (x),(W1.obs o0 [o1,o2]).map some,true)/\
 ck (lst t (bP sq6 x) su (aF (W1.obs o0 [o1,o2]))) 60=(some (x),(W1.obs o0 [o1,o2]).map some,true)/\
 ck (lst t (bP sq7 x) su (aF (W1.obs o0 [o1,o2]))) 60=(some (x),(W1.obs o0 [o1,o2]).map some,true):=by
 refine⟨?_,?_,?_,?_,?_,?_,?_,?_,?_,?_,?_⟩<;>kernel_rfl
theorem kw2(o0 o1 o2:O)(t su x:V):ck (lst t .none su (aF (W2.obs o0 [o1,o2]))) 61=(some (.str us2),(W2.obs o0 [o1,o2]).map some,true)/\
 ck (lst t (bP us2 x) su (aF (W2.obs o0 [o1,o2]))) 61=(some (.str us2),(W2.obs o0 [o1,o2]).map some,true)/\
 ck (lst t (bP kT x) su (aF (W2.obs o0 [o1,o2]))) 61=(some (.str kT),(W2.obs o0 [o1,o2]).map some,true)/\
 ck (lst t (bP sq2 x) su (aF (W2.obs o0 [o1,o2]))) 61=(some (x),(W2.obs o0 [o1,o2]).map some,true)/\
 ck (lst t (bP sq1 x) su (aF (W2.obs o0 [o1,o2]))) 61=(some (x),(W2.obs o0 [o1,o2]).map some,true)/\
 ck (lst t (bP sq3 x) su (aF (W2.obs o0 [o1,o2]))) 61=(some (x),(W2.obs o0 [o1,o2]).map some,true)/\
 ck (lst t (bP sq8 x) su (aF (W2.obs o0 [o1,o2]))) 61=(some (x),(W2.obs o0 [o1,o2]).map some,true)/\
 ck (lst t (bP sq5 x) su (aF (W2.obs o0 [o1,o2]))) 61=(some (x),(W2.obs o0 [o1,o2]).map some,true)/\
 ck (lst t (bP sq4 x) su (aF (W2.obs o0 [o1,o2]))) 61=(some (x),(W2.obs o0 [o1,o2]).map some,true)/\
 ck (lst t (bP sq6 x) su (aF (W2.obs o0 [o1,o2]))) 61=(some (x),(W2.obs o0 [o1,o2]).map some,true)/\
 ck (lst t (bP sq7 x) su (aF (W2.obs o0 [o1,o2]))) 61=(some (x),(W2.obs o0 [o1,o2]).map some,true):=by
 refine⟨?_,?_,?_,?_,?_,?_,?_,?_,?_,?_,?_⟩<;>kernel_rfl
theorem kw3(o0 o1 o2:O)(t su x:V):ck (lst t .none su (aF (W3.obs o0 [o1,o2]))) 53=(some (.str us3),(W3.obs o0 [o1,o2]).map some,true)/\
 ck (lst t (bP us3 x) su (aF (W3.obs o0 [o1,o2]))) 53=(some (.str us3),(W3.obs o0 [o1,o2]).map some,true)/\
 ck (lst t (bP kR x) su (aF (W3.obs o0 [o1,o2]))) 53=(some (.str kR),(W3.obs o0 [o1,o2]).map some,true)/\
 ck (lst t (bP sq2 x) su (aF (W3.obs o0 [o1,o2]))) 53=(some (x),(W3.obs o0 [o1,o2]).map some,true)/\
 ck (lst t (bP sq1 x) su (aF (W3.obs o0 [o1,o2]))) 53=(some (x),(W3.obs o0 [o1,o2]).map some,true)/\
 ck (lst t (bP sq3 x) su (aF (W3.obs o0 [o1,o2]))) 53=(some (x),(W3.obs o0 [o1,o2]).map some,true)/\
 ck (lst t (bP sq8 x) su (aF (W3.obs o0 [o1,o2]))) 53=(some (x),(W3.obs o0 [o1,o2]).map some,true)/\
 ck (lst t (bP sq5 x) su (aF (W3.obs o0 [o1,o2]))) 53=(some (x),(W3.obs o0 [o1,o2]).map some,true)/\
 ck (lst t (bP sq4 x) su (aF (W3.obs o0 [o1,o2]))) 53=(some (x),(W3.obs o0 [o1,o2]).map some,true)/\
 ck (lst t (bP sq6 x) su (aF (W3.obs o0 [o1,o2]))) 53=(some (x),(W3.obs o0 [o1,o2]).map some,true)/\
 ck (lst t (bP sq7 x) su (aF (W3.obs o0 [o1,o2]))) 53=(some (x),(W3.obs o0 [o1,o2]).map some,true):=by
 refine⟨?_,?_,?_,?_,?_,?_,?_,?_,?_,?_,?_⟩<;>kernel_rfl
theorem kx0(o0 o1 o2:O)(t su x:V):ck (lst t (bP sq9 x) su (aF (W0.obs o0 [o1,o2]))) 61=(some (.str sq9),(W0.obs o0 [o1,o2]).map some,true):=by kernel_rfl
noncomputable def KF:CS:=(.ifs (.and [(.cmp .isn (.loc 3) (.c .none)),(.cmp .ne (.sub (.loc 3) (.c (.int 1))) (.ife (.cmp .is_ (.loc 4) (.c .none)) (.c (.str [48])) (.c (.str [49]))))]) [(.raise 5 [(.sub (.loc 3) (.c (.int 2))),(.c (.str [83,101,116,85,112,32,97,110,100,32,70,69,78,32,100,105,115,97,103,114,101,101]))])] [])
theorem VC:(aU 70).body=(.asg (.n 3) (.call 69 [(.loc 0),(.c (.str [83,101,116,85,112]))]))::(.asg (.n 4) (.call 69 [(.loc 0),(.c (.str [70,69,78]))]))::KF::kM:=rfl
noncomputable abbrev suN:List Nat:=[83,101,116,85,112]
noncomputable abbrev feN:List Nat:=[70,69,78]
theorem VD(t:Nat)(g z:V)(ts:List Tag)(s:St)(h:s.h.get t=some (.list (aB ts))):aR (E 396) (aU 70) [.ref t,g,z] s =
 ((E 394).b (KF::kM) [some (.ref t),some g,some z,some ((bW suN ts).elim .none Tag.v),some ((bW feN ts).elim .none Tag.v)] s).out:=by
 have e0:aR (E 396) (aU 70) [.ref t,g,z] s=((E 396).b (aU 70).body [some (.ref t),some g,some z,none,none] s).out:=rfl;refine rwl (e0 ..) (rwl (VC ..) ?_);simp only[x_b,eQ,fJ,cJ,aT,aN,aK,aM,x_c,bH,RE.bind_ok,cR,dE,bY,cP];refine rwl (HM 381 t suN ts s h ..) ?_;simp only[aL,aZ,x_b,eQ,fJ,cJ,aT,aN,aK,aM,x_c,bH,RE.bind_ok,cR,dE,bY,cP];refine rwl (HM 380 t feN ts s h ..) ?_;simp only[aL,aZ,x_b]
def dK(t:V)(fen su:V)(s:St):RE V:=FF t (.ref 1) (.ref 40) ((E 394).b (KF::kM) [some t,some (.ref 1),some (.ref 40),some su,some fen] s).out
theorem IU(t:Nat)(ts:List Tag)(s:St)(h:s.h.get t=some (.list (aB ts))):aR (E 400) (aU 79) [.ref t,.ref 1,.ref 40] s=dK (.ref t) ((bW feN ts).elim .none Tag.v) ((bW suN ts).elim .none Tag.v) s:=by rw[WG,VD t _ _ ts s h];rfl
noncomputable abbrev suV(v:List Nat)(x:V):V:=.tup [.str suN,.str v,x]
theorem aBJ(s:St):cT s .isn .none .none=some false:=rfl
theorem aJg(s:St)(l:List V):cT s .isn (.tup l) .none=some true:=rfl
theorem aLl(s:St):cT s .is_ .none .none=some true:=rfl
theorem aLk(s:St)(l:List V):cT s .is_ (.tup l) .none=some false:=rfl
theorem FD(t fen:V)(s:St):dK t fen .none s=lst t fen .none s:=by delta dK lst KF;simp only[x_b,pD,eL,zZ,sD,eP,aT,aN,aW,aK,aM,x_c,RE.bind_ok,gE];simp only[aBJ,cX,RE.bind_ok,rT,eX,bG,aL,cK,aZ]
theorem aI6(s:St)(l:List V)(i:Nat):item s (.tup l) (.int i)=nth l i:=rfl
theorem NU(t x y:V)(a:List Nat)(s:St):dK t (bP a x) (suV [49] y) s=lst t (bP a x) (suV [49] y) s:=by
 have e:((E 394).b (KF::kM) [some t,some (.ref 1),some (.ref 40),some (suV [49] y),some (bP a x)] s)=dY ((E 393).b kM) (.ok .next [some t,some (.ref 1),some (.ref 40),some (suV [49] y),some (bP a x)] s):=by rw[x_b];congr 1
 delta dK lst;rw[e];rfl
theorem aCg(t y:V)(s:St):dK t .none (suV [48] y) s=lst t .none (suV [48] y) s:=by
 have e:((E 394).b (KF::kM) [some t,some (.ref 1),some (.ref 40),some (suV [48] y),some .none] s)=dY ((E 393).b kM) (.ok .next [some t,some (.ref 1),some (.ref 40),some (suV [48] y),some .none] s):=by rw[x_b];congr 1
 delta dK lst;rw[e];rfl
theorem mw0(o0 o1 o2:O)(t x y:V)(a:List Nat):ck (dK t (bP a x) (suV [48] y) (aF (W0.obs o0 [o1,o2]))) 61=(some y,(W0.obs o0 [o1,o2]).map some,true)/\
 ck (dK t (bP a x) (suV [50] y) (aF (W0.obs o0 [o1,o2]))) 61=(some y,(W0.obs o0 [o1,o2]).map some,true)/\
 ck (dK t (bP a x) (suV [] y) (aF (W0.obs o0 [o1,o2]))) 61=(some y,(W0.obs o0 [o1,o2]).map some,true)/\
 ck (dK t .none (suV [49] y) (aF (W0.obs o0 [o1,o2]))) 61=(some y,(W0.obs o0 [o1,o2]).map some,true)/\
 ck (dK t .none (suV [50] y) (aF (W0.obs o0 [o1,o2]))) 61=(some y,(W0.obs o0 [o1,o2]).map some,true)/\
 ck (dK t .none (suV [] y) (aF (W0.obs o0 [o1,o2]))) 61=(some y,(W0.obs o0 [o1,o2]).map some,true):=by
 refine⟨?_,?_,?_,?_,?_,?_⟩<;>kernel_rfl
theorem mw1(o0 o1 o2:O)(t x y:V)(a:List Nat):ck (dK t (bP a x) (suV [48] y) (aF (W1.obs o0 [o1,o2]))) 60=(some y,(W1.obs o0 [o1,o2]).map some,true)/\
 ck (dK t (bP a x) (suV [50] y) (aF (W1.obs o0 [o1,o2]))) 60=(some y,(W1.obs o0 [o1,o2]).map some,true)/\
 ck (dK t (bP a x) (suV [] y) (aF (W1.obs o0 [o1,o2]))) 60=(some y,(W1.obs o0 [o1,o2]).map some,true)/\
 ck (dK t .none (suV [49] y) (aF (W1.obs o0 [o1,o2]))) 60=(some y,(W1.obs o0 [o1,o2]).map some,true)/\
 ck (dK t .none (suV [50] y) (aF (W1.obs o0 [o1,o2]))) 60=(some y,(W1.obs o0 [o1,o2]).map some,true)/\
 ck (dK t .none (suV [] y) (aF (W1.obs o0 [o1,o2]))) 60=(some y,(W1.obs o0 [o1,o2]).map some,true):=by
 refine⟨?_,?_,?_,?_,?_,?_⟩<;>kernel_rfl
theorem mw2(o0 o1 o2:O)(t x y:V)(a:List Nat):ck (dK t (bP a x) (suV [48] y) (aF (W2.obs o0 [o1,o2]))) 61=(some y,(W2.obs o0 [o1,o2]).map some,true)/\
 ck (dK t (bP a x) (suV [50] y) (aF (W2.obs o0 [o1,o2]))) 61=(some y,(W2.obs o0 [o1,o2]).map some,true)/\
 ck (dK t (bP a x) (suV [] y) (aF (W2.obs o0 [o1,o2]))) 61=(some y,(W2.obs o0 [o1,o2]).map some,true)/\
 ck (dK t .none (suV [49] y) (aF (W2.obs o0 [o1,o2]))) 61=(some y,(W2.obs o0 [o1,o2]).map some,true)/\
 ck (dK t .none (suV [50] y) (aF (W2.obs o0 [o1,o2]))) 61=(some y,(W2.obs o0 [o1,o2]).map some,true)/\
 ck (dK t .none (suV [] y) (aF (W2.obs o0 [o1,o2]))) 61=(some y,(W2.obs o0 [o1,o2]).map some,true):=by
 refine⟨?_,?_,?_,?_,?_,?_⟩<;>kernel_rfl
theorem mw3(o0 o1 o2:O)(t x y:V)(a:List Nat):ck (dK t (bP a x) (suV [48] y) (aF (W3.obs o0 [o1,o2]))) 53=(some y,(W3.obs o0 [o1,o2]).map some,true)/\
 ck (dK t (bP a x) (suV [50] y) (aF (W3.obs o0 [o1,o2]))) 53=(some y,(W3.obs o0 [o1,o2]).map some,true)/\
 ck (dK t (bP a x) (suV [] y) (aF (W3.obs o0 [o1,o2]))) 53=(some y,(W3.obs o0 [o1,o2]).map some,true)/\
 ck (dK t .none (suV [49] y) (aF (W3.obs o0 [o1,o2]))) 53=(some y,(W3.obs o0 [o1,o2]).map some,true)/\
 ck (dK t .none (suV [50] y) (aF (W3.obs o0 [o1,o2]))) 53=(some y,(W3.obs o0 [o1,o2]).map some,true)/\
 ck (dK t .none (suV [] y) (aF (W3.obs o0 [o1,o2]))) 53=(some y,(W3.obs o0 [o1,o2]).map some,true):=by
 refine⟨?_,?_,?_,?_,?_,?_⟩<;>kernel_rfl
theorem sf0(o0 o1 o2 o3 o4 o5 o6 o7 o8 o9 o10 o11:O):ck (aR (E 386) (aU 67) [.ref 1] (aF (W0.obs o0 [o1,o2,o3,o4,o5,o6,o7,o8,o9,o10,o11]))) 70=(some (.str us0),(W0.obs o0 [o1,o2,o3,o4,o5,o6,o7,o8,o9,o10,o11]).map some,true):=by kernel_rfl
theorem aDO(o0 o1 o2:O):aR (E 391) (aU 72) [] (aF (W0.obs o0 [o1,o2]))=.ok (.ref 61) (aF (W0.obs o0 [o1,o2,.inst 10 [(35,.int 0),(36,.none),(37,.str []),(38,.int (-1)),(39,.ref 62),(40,.ref 63),(41,.ref 64),(42,.ref 65)],.list [],.list [],.list [],.list []])):=by kernel_rfl
theorem sf1(o0 o1 o2 o3 o4 o5 o6 o7 o8 o9 o10 o11:O):ck (aR (E 386) (aU 67) [.ref 1] (aF (W1.obs o0 [o1,o2,o3,o4,o5,o6,o7,o8,o9,o10,o11]))) 69=(some (.str us1),(W1.obs o0 [o1,o2,o3,o4,o5,o6,o7,o8,o9,o10,o11]).map some,true):=by kernel_rfl
theorem aDN(o0 o1 o2:O):aR (E 391) (aU 72) [] (aF (W1.obs o0 [o1,o2]))=.ok (.ref 60) (aF (W1.obs o0 [o1,o2,.inst 10 [(35,.int 0),(36,.none),(37,.str []),(38,.int (-1)),(39,.ref 61),(40,.ref 62),(41,.ref 63),(42,.ref 64)],.list [],.list [],.list [],.list []])):=by kernel_rfl
theorem sf2(o0 o1 o2 o3 o4 o5 o6 o7 o8 o9 o10 o11:O):ck (aR (E 386) (aU 67) [.ref 1] (aF (W2.obs o0 [o1,o2,o3,o4,o5,o6,o7,o8,o9,o10,o11]))) 70=(some (.str us2),(W2.obs o0 [o1,o2,o3,o4,o5,o6,o7,o8,o9,o10,o11]).map some,true):=by kernel_rfl
theorem aDM(o0 o1 o2:O):aR (E 391) (aU 72) [] (aF (W2.obs o0 [o1,o2]))=.ok (.ref 61) (aF (W2.obs o0 [o1,o2,.inst 10 [(35,.int 0),(36,.none),(37,.str []),(38,.int (-1)),(39,.ref 62),(40,.ref 63),(41,.ref 64),(42,.ref 65)],.list [],.list [],.list [],.list []])):=by kernel_rfl
theorem sf3(o0 o1 o2 o3 o4 o5 o6 o7 o8 o9 o10 o11:O):ck (aR (E 386) (aU 67) [.ref 1] (aF (W3.obs o0 [o1,o2,o3,o4,o5,o6,o7,o8,o9,o10,o11]))) 62=(some (.str us3),(W3.obs o0 [o1,o2,o3,o4,o5,o6,o7,o8,o9,o10,o11]).map some,true):=by kernel_rfl
theorem aDL(o0 o1 o2:O):aR (E 391) (aU 72) [] (aF (W3.obs o0 [o1,o2]))=.ok (.ref 53) (aF (W3.obs o0 [o1,o2,.inst 10 [(35,.int 0),(36,.none),(37,.str []),(38,.int (-1)),(39,.ref 54),(40,.ref 55),(41,.ref 56),(42,.ref 57)],.list [],.list [],.list [],.list []])):=by kernel_rfl
theorem mM{s:St}{g c:Nat}{fs:List (Nat×V)}(h:s.h.get g=some (.inst c fs))(a:Nat):tQ s (.ref g) a=fF fs a:=by unfold tQ;dsimp only[vR];rw[h];first|done|rfl
theorem aBK{s:St}{g c:Nat}{fs:List (Nat×V)}(h:s.h.get g=some (.exc c fs))(a:Nat):tQ s (.ref g) a=fF fs a:=by unfold tQ;dsimp only[vR];rw[h];first|done|rfl
theorem MQ{s:St}{g c:Nat}{fs:List (Nat×V)}(h:s.h.get g=some (.exc c fs))(hl:fs.length<1000)(a:Nat)(v:V):setA s (.ref g) a v=some (bE s g (.exc c (iM fs a v))):=by unfold setA;dsimp only[vR];rw[h];dsimp only[oO];rw[aD,mZ hl];rfl
theorem UN{s:St}(c:Nat)(args:List CE):stp n (.raise c args) l s=(evs (E n) l args s).bs l λvs s=>s.newS (.exc c []) λk s=>(aR (E n) (aU (dF c)) (.ref k::vs) s).noExc.bs l λv s=>sel (iF v) (jL k l s) .stuck:=rfl
theorem aBF{s:St}(o:O)(k:Nat->St->RS)(h:s.n<1000):s.newS o k=k s.n (aV s o):=by rw[St.newS_eq,aC.mpr h];rfl
theorem pC{s:St}(o:CE)(a:Nat)(e:CE):stp n (.setA o a e) l s=((E n).e e l s).bs l λv s=>((E n).e o l s).bs l λo s=>fB l (setA s o a v):=rfl
theorem aDk{s:St}(args:List CE):(E (n+1)).e (.excinit args) l s=(evs (E n) l args s).bind excI:=rfl
theorem YK{s:St}(a:CE):(E (n+1)).e (.neg a) l s=((E n).e a l s).bind λa s=>BR s a:=rfl
theorem aCd(m:Nat)(s:St)(hn:s.n<900):∃bL,(∀l,stp (m+20) fC l s=.exc s.n l bL)/\Gr s bL s.n/\s.n<bL.n/\∃fs,bL.h.get s.n=some (.exc 5 fs)/\fF fs 4=some (.int (-1)):=by
 generalize hs1:aV s (.exc 5 [])=s1;have n1:s1.n=s.n+1:=by rw[<- hs1];rfl
 have e1:s1.h.get s.n=some (.exc 5 []):=by rw[<- hs1,aY _ (cS hn),if_pos rfl]
 have g1:Gr s s1 s.n:=by rw[<- hs1];exact fZ _ _ _ (cS hn)
 generalize hs2:bE s1 s.n (.exc 5 [(0,.str sq0)])=s2;have e2:s2.h.get s.n=some (.exc 5 [(0,.str sq0)]):=by rw[<- hs2,aS _ _ (cS hn),if_pos rfl]
 have g2:Gr s1 s2 s.n:=by rw[<- hs2];exact oP _ _ _ (cS hn)
 generalize hs3:bE s2 s.n (.exc 5 [(0,.str sq0),(4,.int (-1))])=s3;have e3:s3.h.get s.n=some (.exc 5 [(0,.str sq0),(4,.int (-1))]):=by rw[<- hs3,aS _ _ (cS hn),if_pos rfl]
 have g3:Gr s2 s3 s.n:=by rw[<- hs3];exact oP _ _ _ (cS hn)
 refine⟨s3,λl=>?_,(g1.trans g2).trans g3,by have:=g2.n;have:=g3.n;omega,_,e3,rfl⟩;unfold fC;refine rwl (UN ..) ?_;simp only[cJ,x_c,bH,RE.bind_ok];refine rwl (YK ..) ?_;simp only[x_c,RE.bind_ok];rw[show BR s (.int 1)=.ok (.int (-1)) s from by unfold BR;dsimp only[vI];rw[cF];rfl];simp only[RE.bind_ok,aL];refine rwl (aBF _ _ (cS hn) ..) (rwl (hs1 ..) ?_);have c0:aR (E (m+18)) (aU 0) [.ref s.n,.str sq0] s1=.ok .none s2:=by refine rwl (show aR (E (m+18)) (aU 0) [.ref s.n,.str sq0] s1=((E (m+18)).b fD [some (.ref s.n),some (.str sq0)] s1).out from rfl ..) ?_;unfold fD;simp only[x_b,mC];refine rwl (aDk ..) ?_;simp only[cJ,aT,aN,aK,aM,aW,bH,RE.bind_ok];rw[show excI [.ref s.n,.str sq0] s1=.ok .none s1 from by unfold excI;dsimp only;rw[e1]];simp only[aL,dM,aI,aZ,x_b];refine rwl (pC ..) ?_;simp only[aT,aN,aW,aK,aM,aL];refine rwl (MQ e1 (by simp) ..) (rwl (show iM [] 0 (.str sq0)=[(0,.str sq0)] from rfl ..) (rwl (hs2 ..) ?_));simp only[iB,aZ,gE,DZ]
 have c5:aR (E (m+20)) (aU (dF 5)) [.ref s.n,.int (-1),.str sq0] s1=.ok .none s3:=by refine rwl (show aR (E (m+20)) (aU (dF 5)) [.ref s.n,.int (-1),.str sq0] s1=((E (m+20)).b iN [some (.ref s.n),some (.int (-1)),some (.str sq0)] s1).out from rfl ..) ?_;unfold iN;simp only[x_b,mC,fJ,cJ,aT,aN,aK,aM,aW,bH,RE.bind_ok];refine rwl (c0 ..) ?_;simp only[aL,dM,aI,aZ,x_b];rw[pC];simp only[aT,aN,aW,aK,aM,aL];refine rwl (MQ e2 (by simp) ..) (rwl (show iM [(0,V.str sq0)] 4 (.int (-1))=[(0,.str sq0),(4,.int (-1))] from rfl ..) (rwl (hs3 ..) ?_));simp only[iB,aZ,gE,DZ]
 refine rwl (c5 ..) ?_;simp only[lN,aL,dM,aI];unfold jL;exact rwl (e3 ..) rfl
theorem xW(ts:List Tag)(n:List Nat):cN (dI ts) n=(bW n ts).map (·.2.1):=by
 induction ts with
 |nil=>rfl
 |cons t ts ih=>
  refine(?_:(Bool.rec (cN (dI ts) n) (some t.2.1) (eqS t.1 n):Option V)=_);simp only[bQ,bW];by_cases q:t.1=n;.rw[if_pos q,decide_eq_true q];rfl
  .rw[if_neg q,decide_eq_false q];exact ih
theorem GE(ts:List Tag)(n:List Nat)(x:V):(bW n ts).elim x (·.2.1)=(cN (dI ts) n).getD x:=by rw[xW];cases bW n ts<;>rfl
noncomputable abbrev ftM(g geo:V)(a b c d e:Option V):Loc:=[some g,some geo,a,b,c,d,e]
theorem SL(m g t c:Nat)(geo:V)(a3 a4:Option V)(fs:List (Nat×V))(ts:List Tag)(s:St)(hg:s.h.get g=some (.inst c fs))(hf:fF fs 31=some (.ref t))(ht:s.h.get t=some (.list (aB ts))):
 ∀ps:List (List Nat×V),jC (E (m+20)) (ftM (.ref g) geo none a3 a4 none none) (.tup [(.loc 5),(.call 74 [(.attr (.loc 0) 31),(.loc 5),(.loc 6)])]) (.t [5,6]) [] (ps.map λp=>V.tup [.str p.1,p.2]) s=.ok (aB (eA (dI ts) ps)) s:=by
 intro mN;induction mN with
 |nil=>exact rfl
 |cons rE ps aQ=>obtain⟨a,x⟩:=rE;refine rwl (List.map_cons ..) (rwl (mY ..) ?_);simp only[rY,dE,bY,nG,fS,cJ,aT,aN,fJ,jH,bH,RE.bind_ok,aI,aM,aW,aK];refine rwl (mM hg ..) (rwl (hf ..) ?_);simp only[bG,RE.bind_ok];refine rwl (US (m+5) t a x ts s ht ..) ?_;simp only[RE.bind_ok];refine rwl (aD ..) (rwl (hA (by simp) ..) ?_);simp only[aI,RE.bind_ok];refine rwl (aQ ..) ?_;simp only[RE.bind_ok];rw[GE];rfl
noncomputable def roN:List (List Nat):=[[69,118,101,110,116],[83,105,116,101],[68,97,116,101],[82,111,117,110,100],[87,104,105,116,101],[66,108,97,99,107]]
noncomputable def owN:List (List Nat):=[[82,101,115,117,108,116],[83,101,116,85,112],[70,69,78]]
theorem aDU:pX 19=.tup (owN.map V.str):=rfl
theorem aDP:pX 18=.tup (eJ.map λp=>V.tup [.str p.1,p.2]):=rfl
noncomputable def fU(q:Tag):Bool:=!decide (q.1∈roN)&&!decide (q.1∈owN)
theorem aBE{s:St}{ns:List (List Nat)}(h:s.h.get n=some (.list (ns.map V.str)))(a:List Nat):cT s .nin (.str a) (.ref n)=some (!decide (a∈ns)):=by
 refine(?_:uZ (inV s (.str a) (.ref n))=_);rw[show inV s (.str a) (.ref n)=kQ a (ns.map V.str) from by
  show(Option.rec none (λo=>O.casesOn (motive:=λZ=>Option Bool) o (kQ a) (λZ Z=>none) (λkvs=>some (HQ (cN kvs a))) (λZ Z=>none)) (s.h.get n):Option Bool)=_;rw[h]]
 rw[tH,<- gO];rfl
theorem aBD{s:St}{ns:List (List Nat)}(a:List Nat):cT s .nin (.str a) (.tup (ns.map V.str))=some (!decide (a∈ns)):=by refine(?_:uZ (kQ a (ns.map V.str))=_);rw[tH,<- gO];rfl
theorem XO(m g t n2:Nat)(geo:V)(a2 a4:Option V)(ts:List Tag)(hr:∀q∈ts,q.2.2=[])(s:St)(ht:s.h.get t=some (.list (aB ts)))(h2:s.h.get n2=some (.list (roN.map V.str))):
 ∀k i,i+k=ts.length->hY (E (m+16)) (ftM (.ref g) geo a2 (some (.ref n2)) a4 none none) (.tup [(.loc 5),(.loc 6)]) (.t [5,6]) [(.and [(.cmp .nin (.loc 5) (.loc 3)),(.cmp .nin (.loc 5) (.glo 19))])] t k i s=.ok (aB ((ts.drop i).filter fU)) s:=by
 intro x9;induction x9 with
 |zero=>
  intro i hk;refine rwl (hU ..) (rwl (bK ht ..) (rwl (aL6 (qZ hk) ..) ?_));have:Nat.beq (bC (aB ts)) i=true:=by rw[aD];unfold aB;rw[aLX,show ts.length=i by exact BD hk];exact Nat.beq_refl _
  rw[this];rfl
 |succ k aQ=>
  intro i hk;have hi:i<ts.length:=uY hk;refine rwl (fQ hi ..) (aLJ λaA=>?_);obtain⟨⟨b,x,r⟩,hq⟩:∃q,ts[i]=q:=⟨_,rfl⟩;have hr0:r=[]:=hr (b,x,r) (by rw[<- hq];exact aMc hi);subst hr0;have hn:nth (aB ts) i=some (.tup [.str b,x]):=fW (t:=(b,x,[])) (by rw[aLN hi,hq]);refine aA (rwl (hW ..) (rwl (bK ht ..) (rwl (hn ..) (rwl (hq ..) ?_))));simp only[HD,eL,zZ,sD,eP,aT,aN,nG,fS,cJ,bH,RE.bind_ok,aM,rY,dE,bY,aW,aK];refine rwl (aBE h2 ..) ?_;simp only[cX,RE.bind_ok];have ih:=aQ (i+1) (yX hk);refine rwl (List.filter_cons ..) (rwl (show fU (b,x,[])=(!decide (b∈roN)&&!decide (b∈owN)) from rfl ..) ?_);cases (!decide (b∈roN)) with
  |false=>simp only[rT,RE.bind_ok,eX,bG,cK];rw[ih];rfl
  |true=>
   simp only[yM,EC,eP,aT,aN,aW,aK,aM,wH,RE.bind_ok];refine rwl (aDU ..) (rwl (aBD ..) ?_);simp only[cX,RE.bind_ok,eX,bG];cases (!decide (b∈owN)) with
   |false=>simp only[cK,RE.bind_ok];rw[ih];rfl
   |true=>simp only[aI,RE.bind_ok];refine rwl (aD ..) (rwl (hA (by simp) ..) ?_);simp only[aI,RE.bind_ok];refine rwl (ih ..) ?_;simp only[RE.bind_ok];rfl
theorem lH(p:α->Bool):∀l:List α,gR p l=l.all p:=by
 intro x9;induction x9 with
 |nil=>exact rfl
 |cons x l aQ=>refine(?_:(Bool.rec false (gR p l) (p x):Bool)=_);rw[aQ];cases h:p x<;>simp[h]
theorem zX(hr:∀q∈ts,q.2.2=[]/\∃x,q.2.1=.str x):oY (aB ts)=true:=by unfold oY;rw[lH,List.all_eq_true];intro v hv;unfold aB at hv;obtain⟨⟨a,x,r⟩,hq,rfl⟩:=List.mem_map.mp hv;obtain⟨h1,y,h2⟩:=hr _ hq;cases h1;cases h2;rfl
theorem GY:∀{ts:List Tag},(ts.map (·.1)).Nodup->qJ (aB ts)=true:=by
 intro uT;induction uT with
 |nil=>intro _;exact rfl
 |cons t ts aQ=>
  intro h;refine((e02 (List.nodup_cons.mp (show(t.1::ts.map (·.1)).Nodup from h)) λh1 h2=>?_):(Bool.rec false (qJ (aB ts)) (gR (λx=>cW (eqS (eN t.v) (eN x))) (aB ts)):Bool)=true);have:gR (λx=>cW (eqS (eN t.v) (eN x))) (aB ts)=true:=by rw[lH,List.all_eq_true];intro v hv;unfold aB at hv;refine e12 (List.mem_map.mp hv) λq hq bF=>rwr bF (rwl (bQ ..) (rwl (gO ..) (?_:(!decide (t.1=q.1))=true)));have:t.1≠q.1:=λe=>h1 (by rw[e];exact List.mem_map.mpr ⟨q,hq,rfl⟩);simp[this]
  exact rwl (this ..) (aQ h2)
theorem UK{s:St}(h:s.h.get n=some (.list (aB ts)))(hl:ts.length<64)(hr:∀q∈ts,q.2.2=[]/\∃x,q.2.1=.str x)(hd:(ts.map (·.1)).Nodup):bi .sorted [.ref n] s=cZ s (aB (cM (·.1) ts)):=by refine(?_:(match s.h.get n with|some (.list l)=>_|some (.dict kvs)=>_|_=>RE.stuck)=_);rw[h];dsimp only;refine rwl (aD ..) (rwl (mZ (show(aB ts).length<64 by unfold aB;simpa using hl) ..) (rwl (zX hr ..) (rwl (GY hd ..) ?_)));rw[show iC (aB ts)=aB (cM (·.1) ts) from wQ (key:=λt:Tag=>t.1) (f:=Tag.v) (λa=>rfl) ts];rfl
noncomputable def eK(ts:List Tag)(st us:List Nat):List Tag:=ts.filter fU++(if st=us then [] else [([70,69,78],.str st,[]),([83,101,116,85,112],.str [49],[])])
def bO(ts:List Tag)(st us:List Nat)(re:V):List Tag:=(eA (dI ts) eJ++[([82,101,115,117,108,116],re,[])])++cM (·.1) (eK ts st us)
theorem qQ{st us:List Nat}(h:(ts.map (·.1)).Nodup):((eK ts st us).map (·.1)).Nodup:=by
 unfold eK;rw[aMb,List.nodup_append];refine⟨List.Sublist.nodup (List.Sublist.map _ List.filter_sublist) h,?_,?_⟩;.split<;>simp
 .intro a ha b hb q;subst q;refine e12 (List.mem_map.mp ha) λq hq bF=>?_;subst bF;have h1:=(List.mem_filter.mp hq).2;unfold fU owN at h1;simp only[Bool.and_eq_true,Bool.not_eq_true',decide_eq_false_iff_not,List.mem_cons,not_or]at h1;split at hb;.simp at hb
  .simp at hb;rcases hb with e|e;.exact h1.2.2.2.1 e
   .exact h1.2.2.1 e
theorem AQ{st us:List Nat}(hr:∀q∈ts,q.2.2=[]/\∃x,q.2.1=.str x):∀q∈eK ts st us,q.2.2=[]/\∃x,q.2.1=.str x:=by
 intro q hq;unfold eK at hq;rcases List.mem_append.mp hq with h|h;.exact hr q (List.mem_filter.mp h).1
 .split at h;.simp at h
  .simp at h;rcases h with rfl|rfl;.exact⟨rfl,_,rfl⟩
   .exact⟨rfl,_,rfl⟩
theorem wX{st us:List Nat}:(eK ts st us).length<=ts.length+2:=by unfold eK;refine rwl (aMe ..) ?_;have:=List.length_filter_le fU ts;split<;>simp<;>omega
theorem CR:(aU 75).body=[(.ex (.call 73 [(.attr (.loc 0) 31)])),
 (.asg (.n 2) (.comp (.tup [(.loc 5),(.call 74 [(.attr (.loc 0) 31),(.loc 5),(.loc 6)])]) (.t [5,6]) (.glo 18) [])),
 (.asg (.n 3) (.comp (.loc 5) (.t [5,6]) (.glo 18) [])),
 (.asg (.n 4) (.comp (.tup [(.loc 5),(.loc 6)]) (.t [5,6]) (.attr (.loc 0) 31) [(.and [(.cmp .nin (.loc 5) (.loc 3)),(.cmp .nin (.loc 5) (.glo 19))])])),
 (.ifs (.cmp .ne (.attr (.loc 0) 33) (.call 67 [(.loc 1)])) [(.ex (.meth .append (.loc 4) [(.tup [(.c (.str [70,69,78])),(.attr (.loc 0) 33)])])),
 (.ex (.meth .append (.loc 4) [(.tup [(.c (.str [83,101,116,85,112])),(.c (.str [49]))])]))] []),
 (.ex (.meth .append (.loc 2) [(.tup [(.c (.str [82,101,115,117,108,116])),(.attr (.loc 0) 34)])])),
 (.ret (.bin .add (.loc 2) (.bi .sorted [(.loc 4)])))]:=rfl
theorem aCP(g t c:Nat)(fs:List (Nat×V))(ts:List Tag)(s:St)(hg:s.h.get g=some (.inst c fs))(hf:fF fs 31=some (.ref t))(ht:s.h.get t=some (.list (aB ts)))(hl:ts.length<100)(hn:s.n<900):
 (∃bL,aR (E 393) (aU 75) [.ref g,.ref 1] s=.exc s.n bL/\¬(ts.map (·.1)).Nodup/\Gr s bL s.n/\s.n<bL.n/\∃fs,bL.h.get s.n=some (.exc 5 fs)/\fF fs 4=some (.int (-1)))\/
 (aR (E 391) (aU 73) [.ref t] s=.ok .none s/\(ts.map (·.1)).Nodup):=by
 refine aLJ λaA=>?_;refine e14 (aCd 367 s hn) λbL h1 h2 h3 h4=>?_;have hr:∀k j:Nat,∃l,dY (λl s=>.ok .next l s) ((E (380+8)).b [fC] [some (.ref t),some (.int (.ofNat k)),some (.int (.ofNat j))] s)=.exc s.n l bL:=λk j=>by refine⟨[some (.ref t),some (.int (.ofNat k)),some (.int (.ofNat j))],((?_:dY (λl s=>.ok .next l s) (dY ((E 387).b []) (stp (367+20) fC _ s))=_))⟩;rw[h1];rfl
 rcases YD (m:=380) ht (ZM hl) hr with⟨a,b⟩|h;.refine aA ?_;left;refine aII bL ?_ b h2 h3 h4;have e0:aR (E 393) (aU 75) [.ref g,.ref 1] s=((E 393).b (aU 75).body [some (.ref g),some (.ref 1),none,none,none,none,none] s).out:=rfl;refine rwl (e0 ..) (rwl (CR ..) ?_);simp only[x_b,mC,fJ,cJ,jH,aT,aN,aK,aM,RE.bind_ok,bH];refine rwl (mM hg ..) (rwl (hf ..) ?_);simp only[bG,RE.bind_ok];refine rwl (a ..) ?_;simp only[HI,MS,aBA]
 .exact aA (.inr h)
theorem aI7{a:α}{s:St}{f:α->St->RS}{r:RE α}(h:r=.ok a s):r.bs l f=f a s:=by rw[h];rfl
theorem FJ(n:Nat)(g geo:V)(a2:Option V)(s:St):gM (E (n+10)) (ftM g geo a2 none none none none) (.loc 5) (.t [5,6]) [] (pX 18) s=.ok (roN.map V.str) s:=by kernel_rfl
theorem UQ(ih:Ev)(l:Loc)(elt:CE)(tg:Tg)(ifs:List CE)(vs:List V)(s:St):gM ih l elt tg ifs (.tup vs) s=jC ih l elt tg ifs vs s:=rfl
theorem HH{ih:Ev}{elt:CE}{tg:Tg}{ifs:List CE}{ls:List V}{s:St}(h:s.h.get n=some (.list ls)):gM ih l elt tg ifs (.ref n) s=hY ih l elt tg ifs n ls.length 0 s:=by refine(?_:aP s n RE.stuck _=_);exact rwl (bK h ..) (rwl (oR ..) (rwl (iQ h ..) (rwl (aD ..) rfl)))
theorem KE(os:List Tag)(a:List Nat)(x:V):app (aB os) [V.tup [.str a,x]]=aB (os++[(a,x,[])]):=by rw[cI];unfold aB;rw[aMb];rfl
theorem yL{s:St}{o:Nat}{os:List Tag}(ho:s.h.get o=some (.list (aB os)))(hl:os.length<1000)(a:List Nat)(x:V):meth .append (.ref o) [.tup [.str a,x]] s=.ok .none (bE s o (.list (aB (os++[(a,x,[])])))):=rwl (kE ..) (rwl (bK ho ..) (rwl (pA _ _ (by rw[cI];unfold aB;simp;exact ZK hl) ..) (rwl (KE ..) rfl)))
theorem WJ(a b:V):Nat.blt (bC [a,b]) lim=true:=by rw[aD];exact hA (by simp)
theorem aBM{s:St}{a b:Nat}{x y:List V}(ha:s.h.get a=some (.list x))(hb:s.h.get b=some (.list y)):gA .add (.ref a) (.ref b) s=cZ s (app x y):=by refine(?_:sel true (aP s a RE.stuck λx=>aP s b RE.stuck λy=>cZ s (app x y)) RE.stuck=_);rw[bK ha,bK hb];rfl
theorem XQ(g t:Nat)(rt re:V)(st us:List Nat)(ts:List Tag)(s:St)(hg:s.h.get g=some (.inst 9 [(31,.ref t),(32,rt),(33,.str st),(34,re)]))(ht:s.h.get t=some (.list (aB ts)))(hl:ts.length<20)(hn:s.n<700)(hgn:g<s.n)(htn:t<s.n)(hr:∀q∈ts,q.2.2=[]/\∃x,q.2.1=.str x)(nd:(ts.map (·.1)).Nodup)(hc:aR (E 391) (aU 73) [.ref t] s=.ok .none s)(hs:∀A B C,∃s5,aR (E 386) (aU 67) [.ref 1] (aV (aV (aV s A) B) C)=.ok (.str us) s5/\Gr (aV (aV (aV s A) B) C) s5 (s.n+3)/\s5.n<900):
 ∃s' f,aR (E 393) (aU 75) [.ref g,.ref 1] s=.ok (.ref f) s'/\s.n<=f/\f<s'.n/\Gr s s' s.n/\s'.h.get f=some (.list (aB (bO ts st us re))):=by
 have e0:aR (E 393) (aU 75) [.ref g,.ref 1] s=((E 393).b (aU 75).body [some (.ref g),some (.ref 1),none,none,none,none,none] s).out:=rfl;refine rwl (e0 ..) (rwl (CR ..) ?_);simp only[x_b,mC,fJ,cJ,jH,aT,aN,aK,aM,RE.bind_ok,bH];refine rwl (mM hg ..) (rwl (show fF [(31,V.ref t),(32,rt),(33,.str st),(34,re)] 31=some (.ref t) from rfl ..) ?_);simp only[bG,RE.bind_ok];refine rwl (hc ..) ?_;simp only[aL,dM,aI,aZ,x_b,eQ,rZ,wH,RE.bind_ok,cR,dE,bY,cP];simp only[sA,sB,nI,sC,aK,aW,aI];have hr':∀q∈ts,q.2.2=[]:=λq hq=>(hr q hq).1;refine rwl (aDP ..) (rwl (UQ ..) (rwl (SL 370 g t 9 (.ref 1) none none _ ts s hg rfl ht eJ ..) ?_));simp only[lN,RE.bind_ok];have rl:(eA (dI ts) eJ).length=6:=by unfold eA;rw[aLX];rfl
 have fr:bO ts st us re=(eA (dI ts) eJ++[([82,101,115,117,108,116],re,[])])++cM (·.1) (eK ts st us):=rfl;refine rwl (fr ..) ?_;generalize eA (dI ts) eJ=R at rl;refine rwl (fI _ (jX hn) (by unfold aB;simp;exact aEx rl) ..) ?_;simp only[aL,aZ,x_b,eQ,rZ,wH,RE.bind_ok,cR,dE,bY,cP];simp only[sA,sB,nI,sC,aK,aW,aI];generalize hs1:aV s (.list (aB R))=s1;have n1:s1.n=s.n+1:=by rw[<- hs1];rfl
 have i1:∀j,s1.h.get j=if j=s.n then some (.list (aB R)) else s.h.get j:=λj=>by rw[<- hs1,aY _ (jX hn)]
 refine rwl (FJ 379 ..) ?_;simp only[lN,RE.bind_ok];refine rwl (fI _ (qW hn n1) (by decide) ..) ?_;simp only[aL,aZ,x_b,eQ,rZ,jH,aT,aN,aK,aM,RE.bind_ok,cR,dE,bY,cP];simp only[sA,sB,nI,sC,aK,aW,aI];generalize hs2:aV s1 (.list (roN.map V.str))=s2;have n2:s2.n=s.n+2:=by rw[<- hs2,bN,n1]
 have i2:∀j,s2.h.get j=if j=s.n+1 then some (.list (roN.map V.str)) else s1.h.get j:=λj=>by rw[<- hs2,aY _ (qW hn n1),n1]
 have g2:s2.h.get g=some (.inst 9 [(31,.ref t),(32,rt),(33,.str st),(34,re)]):=by rw[i2,if_neg (IF hgn),i1,if_neg (qU hgn)];exact hg
 have t2:s2.h.get t=some (.list (aB ts)):=by rw[i2,if_neg (IF htn),i1,if_neg (qU htn)];exact ht
 refine rwl (mM g2 ..) (rwl (show fF [(31,V.ref t),(32,rt),(33,.str st),(34,re)] 31=some (.ref t) from rfl ..) ?_);simp only[bG,RE.bind_ok];simp only[HH t2,show(aB ts).length=ts.length from by unfold aB;simp,XO 372 g t s1.n (.ref 1) (some (.ref s.n)) none ts hr' s2 t2 (by rw[i2,if_pos n1]) ts.length 0 (OG),List.drop_zero];simp only[lN,RE.bind_ok];have fl:=List.length_filter_le fU ts;refine rwl (fI _ (xE hn n2) (by unfold aB;rw[aLX];exact aF9 hl fl) ..) ?_;simp only[aL,aZ,x_b,pD,eL,eP,jH,aT,aN,aK,aM,RE.bind_ok,fJ,cJ,aW,bH,mC,gD,fS,x_c,gE];generalize hs3:aV s2 (.list (aB (ts.filter fU)))=s3;have n3:s3.n=s.n+3:=by rw[<- hs3,bN,n2]
 have i3:∀j,s3.h.get j=if j=s.n+2 then some (.list (aB (ts.filter fU))) else s2.h.get j:=λj=>by rw[<- hs3,aY _ (xE hn n2),n2]
 have g3:s3.h.get g=some (.inst 9 [(31,.ref t),(32,rt),(33,.str st),(34,re)]):=by rw[i3,if_neg (aAv hgn)];exact g2
 refine rwl (mM g3 ..) (rwl (show fF [(31,V.ref t),(32,rt),(33,.str st),(34,re)] 33=some (.str st) from rfl ..) ?_);simp only[bG,RE.bind_ok];refine e13 (hs (.list (aB R)) (.list (roN.map V.str)) (.list (aB (ts.filter fU)))) λs5 e5 g5 n5=>?_;rw[hs1,hs2,hs3]at e5 g5;refine rwl (e5 ..) ?_;simp only[RE.bind_ok];refine rwl (jF ..) ?_;simp only[cX,RE.bind_ok,eX,bG,aL];have n5':=g5.n;have gg5:s5.h.get g=some (.inst 9 [(31,.ref t),(32,rt),(33,.str st),(34,re)]):=(g5.h g (aHs hgn n3) (aAz hgn)).trans g3;have f5:s5.h.get s.n=some (.list (aB R)):=by rw[g5.h _ (aFD n3) (aEu),i3,if_neg (aEc),i2,if_neg (ZB),i1,if_pos rfl]
 have r5:s5.h.get s2.n=some (.list (aB (ts.filter fU))):=by rw[g5.h _ (aHk n2 n3) (aFH n2),i3,if_pos n2]
 have gs5:Gr s s5 s.n:=⟨by exact aHj n3 n5',λi h1 h2=>by rw[g5.h _ (aHh n3 h1) (aAz h1),i3,if_neg (aAv h1),i2,if_neg (IF h1),i1,if_neg (IE h2)]⟩;have fin:∀s6:St,s6.n=s5.n->(∀j,j≠s2.n->s6.h.get j=s5.h.get j)->s6.h.get s2.n=some (.list (aB (eK ts st us)))->∃s' f,(dY ((E 387).b [(.ret (.bin .add (.loc 2) (.bi .sorted [(.loc 4)])))]) (stp 387 (.ex (.meth .append (.loc 2) [(.tup [(.c (.str [82,101,115,117,108,116])),(.attr (.loc 0) 34)])])) (ftM (.ref g) (.ref 1) (some (.ref s.n)) (some (.ref s1.n)) (some (.ref s2.n)) none none) s6)).out=.ok (.ref f) s'/\s.n<=f/\f<s'.n/\Gr s s' s.n/\s'.h.get f=some (.list (aB (R++[([82,101,115,117,108,116],re,[])]++cM (·.1) (eK ts st us)))):=by
  intro s6 n6 i6 r6;have g6:=(i6 g (aHt hgn n2)).trans gg5;have f6:=(i6 s.n (aAp n2)).trans f5;simp only[mC,gD,aT,aN,aW,aK,aM,cJ,fS,x_c,jH,RE.bind_ok,bH];refine rwl (mM g6 ..) (rwl (show fF [(31,V.ref t),(32,rt),(33,.str st),(34,re)] 34=some re from rfl ..) ?_);simp only[bG,RE.bind_ok];refine rwl (WJ ..) (rwl (jG _ f6 ..) ?_);simp only[aI,RE.bind_ok];refine rwl (yL f6 (aEy rl) ..) ?_;simp only[aL,dM,aI,aZ,x_b,nH,jV,aT,aN,aW,aK,aM,aBL,cJ,bH,RE.bind_ok];generalize hs7:bE s6 s.n (.list (aB (R++[([82,101,115,117,108,116],re,[])])))=s7;have n7:s7.n=s5.n:=by rw[<- hs7];exact n6
  have i7:∀j,s7.h.get j=if j=s.n then some (.list (aB (R++[([82,101,115,117,108,116],re,[])]))) else s6.h.get j:=λj=>by rw[<- hs7,aS _ _ (jX hn)]
  have r7:s7.h.get s2.n=some (.list (aB (eK ts st us))):=by rw[i7,if_neg (aFF n2)];exact r6
  have r2:=wX (ts:=ts) (st:=st) (us:=us);refine rwl (UK r7 (aGc hl r2) (AQ hr) (qQ nd) ..) (rwl (fI _ (aAE n5 n7) (by unfold aB;rw[aLX,hJ];exact aGd hl r2) ..) ?_);simp only[RE.bind_ok];generalize hs8:aV s7 (.list (aB (cM (·.1) (eK ts st us))))=s8;have n8:s8.n=s5.n+1:=by rw[<- hs8,bN,n7]
  have i8:∀j,s8.h.get j=if j=s7.n then some (.list (aB (cM (·.1) (eK ts st us)))) else s7.h.get j:=λj=>by rw[<- hs8,aY _ (aAE n5 n7)]
  refine rwl (aBM (a:=s.n) (b:=s7.n) (x:=aB (R++[([82,101,115,117,108,116],re,[])])) (y:=aB (cM (·.1) (eK ts st us))) (by rw[i8,if_neg (aKg n3 n5' n7),i7,if_pos rfl]) (by rw[i8,if_pos rfl]) ..) ?_;rw[show app (aB (R++[([82,101,115,117,108,116],re,[])])) (aB (cM (·.1) (eK ts st us)))=aB (R++[([82,101,115,117,108,116],re,[])]++cM (·.1) (eK ts st us)) from by rw[cI];unfold aB;simp];refine rwl (fI _ (OL n5 n8) (by unfold aB;simp[hJ];exact aJT hl rl r2) ..) ?_;simp only[aL,mL,MT];exact SU _ _ rfl (aD2 n3 n5' n8) (by rw[bN];exact AW) (⟨by rw[bN];exact aKh n3 n5' n8,λi h1 h2=>rwl (aY _ (OL n5 n8) ..) (rwl (if_neg (aKu n3 n5' n8 h1) ..) (rwl (i8 ..) (rwl (if_neg (aKt n3 n5' n7 h1) ..) (rwl (i7 ..) (rwl (if_neg (IE h2) ..) (rwl (i6 _ (aAS n2 h1) ..) (gs5.h i h1 h2)))))))⟩) (by rw[aY _ (OL n5 n8),if_pos rfl])
 refine aLJ λaA=>?_;by_cases q:st=us;.have:=fin s5 rfl (λZ Z=>rfl) (by rw[r5];unfold eK;rw[if_pos q];simp);refine aA ?_;refine rwl (decide_eq_true q ..) ?_;simp only[Bool.not_true];simp only[cK,aZ,x_b,mC,gD,aT,aN,aW,aK,aM,cJ,fS,x_c,jH,RE.bind_ok,bH];exact this
 .refine aA ?_;refine rwl (decide_eq_false q ..) ?_;simp only[Bool.not_false];simp only[aI];refine rwl (mM gg5 ..) (rwl (show fF [(31,V.ref t),(32,rt),(33,.str st),(34,re)] 33=some (.str st) from rfl ..) (rwl (jG _ r5 ..) ?_));simp only[bG,RE.bind_ok,aI];refine rwl (WJ ..) ?_;simp only[aI,RE.bind_ok];refine rwl (yL r5 (aGa hl fl) ..) ?_;simp only[aL,dM,aI,aZ,x_b,mC,gD,aT,aN,aW,aK,aM,cJ,fS,x_c,bH,RE.bind_ok];rw[WJ];have ra:(bE s5 s2.n (.list (aB (ts.filter fU++[([70,69,78],.str st,[])])))).h.get s2.n=some (.list (aB (ts.filter fU++[([70,69,78],.str st,[])]))):=by rw[aS _ _ (xE hn n2),if_pos rfl]
  refine rwl (jG _ ra ..) ?_;simp only[aI,RE.bind_ok];refine rwl (yL ra (by simp;exact aGb hl fl) ..) ?_;simp only[aL,dM,aI,aZ,gE,x_b,mC,gD,aT,aN,aW,aK,aM,cJ,fS,x_c,jH,RE.bind_ok,bH];have:=fin (bE (bE s5 s2.n (.list (aB (ts.filter fU++[([70,69,78],.str st,[])])))) s2.n (.list (aB (ts.filter fU++[([70,69,78],.str st,[])]++[([83,101,116,85,112],.str [49],[])])))) rfl
   (λj hj=>by rw[aS _ _ (xE hn n2),if_neg hj,aS _ _ (xE hn n2),if_neg hj]) (by rw[aS _ _ (xE hn n2),if_pos rfl];unfold eK;rw[if_neg q];simp)
  exact this
theorem uU{gF l₂:List Tag}(h1:gF.Pairwise λa b=>a.1<b.1)(h2:l₂.Pairwise λa b=>a.1<b.1)(h:∀q,q∈gF<->q∈l₂):gF=l₂:=by
 induction gF generalizing l₂ with
 |nil=>cases l₂ with
  |nil=>rfl
  |cons b l=>exact absurd ((h b).mpr (aL5 ..)) (by simp)
 |cons a l ih=>cases l₂ with
  |nil=>exact absurd ((h a).mp (aL5 ..)) (by simp)
  |cons b r=>
   refine e02 (List.pairwise_cons.mp h1) λa1 a2=>e02 (List.pairwise_cons.mp h2) λb1 b2=>?_;have e:a=b:=by
    rcases List.mem_cons.mp ((h a).mp (aL5 ..)) with e|e;.exact e
    .rcases List.mem_cons.mp ((h b).mpr (aL5 ..)) with e'|e';.exact e'.symm
     .exact absurd (List.lt_trans (a1 b e') (b1 a e)) (List.lt_irrefl _)
   subst e;congr 1;refine ih a2 b2 λq=>⟨λhq=>?_,λhq=>?_⟩
   .rcases List.mem_cons.mp ((h q).mp (aLM _ hq)) with e|e;.subst e;exact absurd (a1 q hq) (List.lt_irrefl _)
    .exact e
   .rcases List.mem_cons.mp ((h q).mpr (aLM _ hq)) with e|e;.subst e;exact absurd (b1 q hq) (List.lt_irrefl _)
    .exact e
theorem XA{key:α->List Nat}{v:α}:∀{l:List α},l.Pairwise (λa b=>key a<key b)->(∀x∈l,key v≠key x)->(tN key v l).Pairwise λa b=>key a<key b:=by
 intro mN;induction mN with
 |nil=>intro _ _;exact List.pairwise_singleton ..
 |cons x l aQ=>
  intro h hn;refine e02 (List.pairwise_cons.mp h) λh1 h2=>?_;dsimp only[tN];by_cases q:key x<key v
  .refine rwl (if_neg (λz=>z q) ..) (List.pairwise_cons.mpr ⟨λy hy=>(aLJ λaA=>?_),aQ h2 λy hy=>hn y (aLM _ hy)⟩);rcases tM.mp hy with rfl|hy;.exact aA q
   .exact aA (h1 y hy)
  .refine rwl (if_pos q ..) ?_;have lt:key v<key x:=by
    rcases Decidable.em (key v<key x) with z|z;.exact z
    .exact absurd (List.le_antisymm (List.not_lt.mp q) (List.not_lt.mp z)) (hn x (aL5 ..))
   refine List.pairwise_cons.mpr ⟨λy hy=>?_,h⟩;rcases List.mem_cons.mp hy with rfl|hy;.exact lt
   .exact List.lt_trans lt (h1 y hy)
theorem xO{key:α->List Nat}:∀{l:List α},(l.map key).Nodup->(cM key l).Pairwise λa b=>key a<key b:=by
 intro rE;induction rE with
 |nil=>intro _;exact List.Pairwise.nil
 |cons x l aQ=>intro h;exact e02 (List.nodup_cons.mp (show(key x::l.map key).Nodup from h)) λh1 h2=>XA (aQ h2) λy hy e=>h1 (rwl (e ..) (List.mem_map.mpr ⟨y,dD.mp hy,rfl⟩))
noncomputable def lfC(st us a:List Nat):Bool:=!decide (st=us)||!decide (a∈[[70,69,78],[83,101,116,85,112]])
theorem WS(st us a:List Nat)(os:List Tag):jQ st us a os=(!decide (a∈os.map (·.1))&&lfC st us a):=by
 delta jQ lfC;congr 1;induction os with
 |nil=>rfl
 |cons q os ih=>
  refine rwl (List.filter_cons ..) ?_;by_cases e:q.1=a;.simp[e]
  .refine rwl (if_neg (by simpa using e) ..) (rwl (ih ..) ?_);simp[aMd e]
theorem XS(st us:List Nat)(kvs:List (List Nat×V)):∀(ks:List (List Nat)) (os:List Tag),ks.Nodup->kX st us kvs ks os=os++(ks.filter λa=>!decide (a∈os.map (·.1))&&lfC st us a).map λa=>(a,(cN kvs a).getD .none,[]):=by
 intro x9;induction x9 with
 |nil=>intro os _;simp[kX]
 |cons a ks aQ=>
  intro os h;refine e02 (List.nodup_cons.mp h) λh1 h2=>?_;rw[kX,aQ _ h2,List.filter_cons,<- WS];cases hk:jQ st us a os with
  |false=>simp
  |true=>
   have:ks.filter (λb=>!decide (b∈(os++[(a,(cN kvs a).getD V.none,([]:List V))]).map (·.1))&&lfC st us b)=ks.filter λb=>!decide (b∈os.map (·.1))&&lfC st us b:=by
    refine List.filter_congr λb hb=>?_;have:b≠a:=λe=>h1 (e▸hb);have e:b∈(os++[(a,(cN kvs a).getD V.none,([]:List V))]:List Tag).map (λx=>x.1)<->b∈os.map (λx=>x.1):=by rw[aMb,List.mem_append];exact⟨λh=>h.elim id λh=>absurd (List.mem_singleton.mp h) this,.inl⟩
    exact rwl (decide_eq_decide.mpr e ..) rfl
   rw[if_pos rfl,this];simp
theorem qA(kvs:List (List Nat×V))(a b:List Nat)(x:V):cN (fG kvs a x) b=if b=a then some x else cN kvs b:=by
 induction kvs with
 |nil=>
  refine((rwl (bQ ..) ?_):(Bool.rec none (some x) (eqS a b):Option V)=_);by_cases q:b=a;.exact rwl (if_pos q ..) (rwl (decide_eq_true q.symm ..) rfl)
  .rw[if_neg q,decide_eq_false (aMd q)];rfl
 |cons p kvs ih=>
  refine rwl (lZ ..) (rwl (jB ..) (rwl (bQ ..) (rwl (bQ ..) ?_)));by_cases q:p.1=a
  .refine rwl (decide_eq_true q ..) (rwl (cond_true ..) (rwl (jB ..) (rwl (bQ ..) (?_:(bif decide (p.1=b) then some x else cN kvs b)=_))));by_cases z:b=a;.rw[if_pos z,decide_eq_true (q.trans z.symm)];rfl
   .rw[if_neg z,decide_eq_false (λe=>z (e.symm.trans q))];rfl
  .refine rwl (decide_eq_false q ..) (rwl (cond_false ..) (rwl (jB ..) (rwl (ih ..) (rwl (bQ ..) ?_))));by_cases z:p.1=b;.rw[decide_eq_true z,cond_true,cond_true,if_neg (λe=>q (z.trans e))]
   .exact rwl (decide_eq_false z ..) (rwl (cond_false ..) (rwl (cond_false ..) rfl))
theorem aDd(kvs:List (List Nat×V))(a b:List Nat)(x:V):b∈(fG kvs a x).map (·.1)<->b=a\/b∈kvs.map (·.1):=by
 have h:∀k:List (List Nat×V),b∈k.map (·.1)<->cN k b≠none:=λk=>by rw[Ne,jA];exact Decidable.not_not.symm
 simp only[h,h,qA];by_cases q:b=a;.simp[q]
 .simp[q]
theorem uA{kvs:List (List Nat×V)}{a:List Nat}{x:V}(h:(kvs.map (·.1)).Nodup):((fG kvs a x).map (·.1)).Nodup:=by
 by_cases q:a∈kvs.map (·.1)
 .have:(fG kvs a x).map (·.1)=kvs.map (·.1):=by
   clear h;induction kvs with
   |nil=>cases q
   |cons p kvs ih=>
    refine rwl (lZ ..) (rwl (bQ ..) ?_);by_cases z:p.1=a;.rw[decide_eq_true z];rfl
    .rw[decide_eq_false z,cond_false,List.map_cons,List.map_cons,ih];rcases List.mem_cons.mp q with e|e;.exact absurd e.symm z
     .exact e
  rw[this];exact h
 .rw[DB q,aMb,List.nodup_append];refine⟨h,by simp,λb hb c hc e=>q ?_⟩;have:c=a:=by simpa using hc
  rw[<- this,<- e];exact hb
theorem BV(nd:(ts.map (·.1)).Nodup)(hr:∀q∈ts,q.2.2=[])(a:List Nat)(x:V):(a,x,[])∈ts<->cN (dI ts) a=some x:=by
 induction ts with
 |nil=>constructor<;>intro h<;>cases h
 |cons t ts ih=>
  refine e02 (List.nodup_cons.mp (show(t.1::ts.map (·.1)).Nodup from nd)) λh1 h2=>?_;have ih:=ih h2 λq hq=>hr q (aLM _ hq);have ht:=hr t (aL5 ..);obtain⟨b,y,r⟩:=t;subst ht;refine(?_:_<->cN ((b,y)::dI ts) a=some x);simp only[jB,bQ,List.mem_cons];by_cases q:b=a
  .subst q;refine rwl (decide_eq_true rfl ..) ?_;constructor
   .rintro(e|e)
    .cases e;rfl
    .exact absurd (List.mem_map.mpr ⟨_,e,rfl⟩) h1
   .intro e;cases e;exact .inl rfl
  .simp only[decide_eq_false q,cond_false,<- ih];constructor
   .rintro(e|e)
    .cases e;exact absurd rfl q
    .exact e
   .exact .inr
set_option tactic.hygienic true in
theorem ED(ts:List Tag)(st us:List Nat)(re:V)(nd:(ts.map (·.1)).Nodup)(hr:∀q∈ts,q.2.2=[]):AA ts st us re=bO ts st us re:=by
 delta AA bO;have knd:((iL (dI ts) st).map (·.1)).Nodup:=uA (uA (by rw[tJ];exact nd));have up:=xO (key:=id) (l:=(iL (dI ts) st).map (·.1)) (by rw[List.map_id];exact knd);have snd:(cM id ((iL (dI ts) st).map (·.1))).Nodup:=up.imp λh e=>by subst e;exact absurd h (List.lt_irrefl _)
 refine rwl (XS _ _ _ _ _ snd ..) ?_;congr 1;refine uU ?_ (xO (qQ nd)) λq=>?_;.rw[List.pairwise_map];exact(List.Pairwise.sublist List.filter_sublist up)
 .rw[dD,List.mem_map];have names:∀a:List Nat,a∈(eA (dI ts) eJ++[([82,101,115,117,108,116],re,[])]:List Tag).map (λx=>x.1)<->a∈roN\/a=[82,101,115,117,108,116]:=λa=>by rw[aMb,List.mem_append];unfold eA;refine rwl (List.map_map ..) (?_:a∈roN\/a∈[_]<->_);rw[List.mem_singleton]
  have val:∀a,cN (iL (dI ts) st) a=if a=[83,101,116,85,112] then some (.str [49]) else if a=[70,69,78] then some (.str st) else cN (dI ts) a:=λa=>by unfold iL;rw[qA,qA]
  have keys:∀a,a∈(iL (dI ts) st).map (·.1)<->cN (iL (dI ts) st) a≠none:=λa=>by rw[Ne,jA];exact Decidable.not_not.symm
  constructor
  .rintro⟨a,ha,rfl⟩;refine aLJ λaA=>e02 (List.mem_filter.mp ha) λh1 h2=>?_;have h1:=(keys a).mp (dD.mp h1);simp only[Bool.and_eq_true,Bool.not_eq_true',decide_eq_false_iff_not,names,not_or]at h2;obtain⟨gW,h5⟩:=h2;refine e02 gW λh3 h4=>aA ?_;unfold eK;rw[List.mem_append];rw[val]at h1;refine rwl (val ..) ?_;unfold lfC at h5;by_cases q1:a=[83,101,116,85,112]
   .right;have:¬st=us:=λe=>by simp[e,q1]at h5
    rw[if_neg this,q1];simp
   .by_cases q2:a=[70,69,78]
    .right;have:¬st=us:=λe=>by simp[e,q2]at h5
     rw[if_neg this,q2];simp
    .left;rw[if_neg q1,if_neg q2]at h1;refine rwl (if_neg q1 ..) (rwl (if_neg q2 ..) (e11 (Option.ne_none_iff_exists'.mp h1) λx hx=>rwl (hx ..) (List.mem_filter.mpr ⟨(BV nd hr a x).mpr hx,?_⟩)));delta fU owN;simp[h3,h4,q1,q2]
  .intro hq;unfold eK at hq;rcases List.mem_append.mp hq with h|h
   .refine e02 (List.mem_filter.mp h) λh1 h2=>?_;have h0:=hr q h1;obtain⟨a,x,r⟩:=q;subst h0;have hx:=(BV nd hr a x).mp h1;dsimp only[fU,owN]at h2;simp only[Bool.and_eq_true,Bool.not_eq_true',decide_eq_false_iff_not,List.mem_cons,not_or]at h2;refine e05 h2 λh3 h4 h5 h6 Z=>⟨a,List.mem_filter.mpr ⟨dD.mpr ((keys a).mpr ?_),?_⟩,?_⟩;.rw[val,if_neg h5,if_neg h6,hx];simp
    .simp only[Bool.and_eq_true,Bool.not_eq_true',decide_eq_false_iff_not,names,not_or];refine⟨⟨h3,h4⟩,?_⟩;unfold lfC;simp[h5,h6]
    .rw[val,if_neg h5,if_neg h6,hx];rfl
   .split at h;.exact False.elim (by cases h)
    .rename_i q0;have lc:∀a,lfC st us a=true:=λa=>by unfold lfC;simp[q0]
     simp at h;rcases h with rfl|rfl;.refine⟨[70,69,78],List.mem_filter.mpr ⟨dD.mpr ((keys _).mpr (by rw[val];simp)),?_⟩,by rw[val];simp⟩;simp only[Bool.and_eq_true,Bool.not_eq_true',decide_eq_false_iff_not,names,not_or];exact⟨⟨by decide,by decide⟩,lc _⟩
     .refine⟨[83,101,116,85,112],List.mem_filter.mpr ⟨dD.mpr ((keys _).mpr (by rw[val];simp)),?_⟩,by rw[val];simp⟩;simp only[Bool.and_eq_true,Bool.not_eq_true',decide_eq_false_iff_not,names,not_or];exact⟨⟨by decide,by decide⟩,lc _⟩
def mG(m:Nat)(v:V):Bool:=match v with
 |.ref i=>Nat.blt i m
 |.tup l=>gR (λv=>match v with|.ref _=>false|.tup _=>false|.frz _=>false|_=>true) l
 |.frz _=>false
 |_=>true
def fV(m:Nat)(o:O):Bool:=match o with
 |.list l=>gR (mG m) l
 |.inst _ fs=>gR (λp=>mG m p.2) fs
 |_=>false
def Wd.starts(W:Wd):List (List Nat):=stT W.us W.lone W.z
noncomputable def gnO(n:Nat):O:=.inst 10 [(35,.int 0),(36,.none),(37,.str []),(38,.int (-1)),(39,.ref (n+1)),(40,.ref (n+2)),(41,.ref (n+3)),(42,.ref (n+4))]
structure Wd.OK(W:Wd):Prop where
 len:W.mid.length=W.kn+1
 kn:45<=W.kn/\W.kn<100
 at1:W.mid[W.kn-1]? = some (.list (knL W.us W.lone W.z))
 at2:W.mid[W.kn]? = some (.list (stL W.us W.lone W.z))
 refs:gR (fV (W.kn+2)) W.mid=true
 fen:∀o0 o1 o2 t su,∃s',lst t .none su (aF (W.obs o0 [o1,o2]))=.ok (.str W.us) s'/\Gr (aF (W.obs o0 [o1,o2])) s' (W.kn+4)
 told:∀p∈W.pairs,∀o0 o1 o2 t su x,∃s',lst t (bP p.1 x) su (aF (W.obs o0 [o1,o2]))=.ok (UC p.2 x) s'/\Gr (aF (W.obs o0 [o1,o2])) s' (W.kn+4)
 st:∀a∈W.starts,∀o0 o1 o2 t su x,∃s',lst t (bP a x) su (aF (W.obs o0 [o1,o2]))=.ok (.str a) s'/\Gr (aF (W.obs o0 [o1,o2])) s' (W.kn+4)
 mis1:∀v∈[[48],[50],[]],∀o0 o1 o2 t x y a,∃s',dK t (bP a x) (suV v y) (aF (W.obs o0 [o1,o2]))=.ok y s'/\Gr (aF (W.obs o0 [o1,o2])) s' (W.kn+4)
 mis0:∀v∈[[49],[50],[]],∀o0 o1 o2 t y,∃s',dK t .none (suV v y) (aF (W.obs o0 [o1,o2]))=.ok y s'/\Gr (aF (W.obs o0 [o1,o2])) s' (W.kn+4)
 sf:∀o0 o1 o2 o3 o4 o5 o6 o7 o8 o9 o10 o11,∃s',aR (E 386) (aU 67) [.ref 1] (aF (W.obs o0 [o1,o2,o3,o4,o5,o6,o7,o8,o9,o10,o11]))=.ok (.str W.us) s'/\Gr (aF (W.obs o0 [o1,o2,o3,o4,o5,o6,o7,o8,o9,o10,o11])) s' (W.kn+13)/\s'.n<900
 root:∀o0 o1 o2,aR (E 391) (aU 72) [] (aF (W.obs o0 [o1,o2]))=.ok (.ref (W.kn+4)) (aF (W.obs o0 [o1,o2,gnO (W.kn+4),.list [],.list [],.list [],.list []]))
theorem ck3{W:Wd}{r:RE V}{v:V}{o0 o1 o2:O}(hl:W.mid.length=W.kn+1)(hk:W.kn<100)(h:ck r n=(some v,(W.obs o0 [o1,o2]).map some,true))(hn:n=W.kn+4):∃s',r=.ok v s'/\Gr (aF (W.obs o0 [o1,o2])) s' (W.kn+4):=by
 have l:(W.obs o0 [o1,o2]).length=W.kn+4:=by unfold Wd.obs;simp[hl]
 exact e13 (JQ (os:=W.obs o0 [o1,o2]) (by rw[l,<- hn];exact h) (aGi hk l)) λs' a b Z=>⟨s',a,l▸b⟩
theorem YF{W:Wd}{r:RE V}{v:V}{o0 o1 o2 o3 o4 o5 o6 o7 o8 o9 o10 o11:O}(hl:W.mid.length=W.kn+1)(hk:W.kn<100)(h:ck r n=(some v,(W.obs o0 [o1,o2,o3,o4,o5,o6,o7,o8,o9,o10,o11]).map some,true))(hn:n=W.kn+13):∃s',r=.ok v s'/\Gr (aF (W.obs o0 [o1,o2,o3,o4,o5,o6,o7,o8,o9,o10,o11])) s' (W.kn+13)/\s'.n<900:=by
 refine aLJ λaA=>?_;have l:(W.obs o0 [o1,o2,o3,o4,o5,o6,o7,o8,o9,o10,o11]).length=W.kn+13:=by unfold Wd.obs;simp[hl]
 exact e13 (JQ (os:=W.obs o0 [o1,o2,o3,o4,o5,o6,o7,o8,o9,o10,o11]) (by rw[l,<- hn];exact h) (aGj hk l)) λs' a b c=>aA ⟨s',a,l▸b,c⟩
theorem ok0:W0.OK:=by
 have hl:W0.mid.length=W0.kn+1:=by decide +kernel
 have hk:W0.kn<100:=by decide +kernel
 refine⟨hl,⟨by decide +kernel,hk⟩,by kernel_rfl,by kernel_rfl,by kernel_rfl,?_,?_,?_,?_,?_,?_,?_⟩;.intro o0 o1 o2 t su;exact ck3 hl hk (kw0 o0 o1 o2 t su .none).1 rfl
 .intro p hp o0 o1 o2 t su x;refine CZ (kw0 o0 o1 o2 t su x) λZ k0 k1 k2 k3 k4 k5 k6 k7 k8 k9=>?_;have hp:p∈(us0,us0)::(kW,kW)::mF.map λp=>(p.1,canon true p):=hp;unfold mF canon at hp;simp only[List.map_cons,List.map_nil,List.mem_cons,List.not_mem_nil,or_false]at hp;rcases hp with rfl|rfl|rfl|rfl|rfl|rfl|rfl|rfl|rfl|rfl;.exact ck3 hl hk k0 rfl
  .exact ck3 hl hk k1 rfl
  .exact ck3 hl hk k2 rfl
  .exact ck3 hl hk k3 rfl
  .exact ck3 hl hk k4 rfl
  .exact ck3 hl hk k5 rfl
  .exact ck3 hl hk k6 rfl
  .exact ck3 hl hk k7 rfl
  .exact ck3 hl hk k8 rfl
  .exact ck3 hl hk k9 rfl
 .intro a ha o0 o1 o2 t su x;refine CZ (kw0 o0 o1 o2 t su x) λZ k0 k1 k2 k3 k4 k5 k6 k7 k8 k9=>?_;have ha:a∈us0::kW::[sq2,sq1,sq9]:=ha;simp only[List.mem_cons,List.not_mem_nil,or_false]at ha;rcases ha with rfl|rfl|rfl|rfl|rfl;.exact ck3 hl hk k0 rfl
  .exact ck3 hl hk k1 rfl
  .exact ck3 hl hk k2 rfl
  .exact ck3 hl hk k3 rfl
  .exact ck3 hl hk (kx0 o0 o1 o2 t su x) rfl
 .intro v hv o0 o1 o2 t x y a;refine e04 (mw0 o0 o1 o2 t x y a) λk0 k1 k2 Z=>?_;simp only[List.mem_cons,List.not_mem_nil,or_false]at hv;rcases hv with rfl|rfl|rfl;.exact ck3 hl hk k0 rfl
  .exact ck3 hl hk k1 rfl
  .exact ck3 hl hk k2 rfl
 .intro v hv o0 o1 o2 t y;refine e06 (mw0 o0 o1 o2 t y y []) λZ Z Z k0 k1 k2=>?_;simp only[List.mem_cons,List.not_mem_nil,or_false]at hv;rcases hv with rfl|rfl|rfl;.exact ck3 hl hk k0 rfl
  .exact ck3 hl hk k1 rfl
  .exact ck3 hl hk k2 rfl
 .intro o0 o1 o2 o3 o4 o5 o6 o7 o8 o9 o10 o11;exact YF hl hk (sf0 o0 o1 o2 o3 o4 o5 o6 o7 o8 o9 o10 o11) rfl
 .intro o0 o1 o2;exact aDO o0 o1 o2
theorem ok1:W1.OK:=by
 have hl:W1.mid.length=W1.kn+1:=by decide +kernel
 have hk:W1.kn<100:=by decide +kernel
 refine⟨hl,⟨by decide +kernel,hk⟩,by kernel_rfl,by kernel_rfl,by kernel_rfl,?_,?_,?_,?_,?_,?_,?_⟩;.intro o0 o1 o2 t su;exact ck3 hl hk (kw1 o0 o1 o2 t su .none).1 rfl
 .intro p hp o0 o1 o2 t su x;refine CZ (kw1 o0 o1 o2 t su x) λZ k0 k1 k2 k3 k4 k5 k6 k7 k8 k9=>?_;have hp:p∈(us1,us1)::(kU,kU)::mF.map λp=>(p.1,canon false p):=hp;unfold mF canon at hp;simp only[List.map_cons,List.map_nil,List.mem_cons,List.not_mem_nil,or_false]at hp;rcases hp with rfl|rfl|rfl|rfl|rfl|rfl|rfl|rfl|rfl|rfl;.exact ck3 hl hk k0 rfl
  .exact ck3 hl hk k1 rfl
  .exact ck3 hl hk k2 rfl
  .exact ck3 hl hk k3 rfl
  .exact ck3 hl hk k4 rfl
  .exact ck3 hl hk k5 rfl
  .exact ck3 hl hk k6 rfl
  .exact ck3 hl hk k7 rfl
  .exact ck3 hl hk k8 rfl
  .exact ck3 hl hk k9 rfl
 .intro a ha o0 o1 o2 t su x;refine CZ (kw1 o0 o1 o2 t su x) λZ k0 k1 k2 k3 k4 k5 k6 k7 k8 k9=>?_;have ha:a∈us1::kU::[]:=ha;simp only[List.mem_cons,List.not_mem_nil,or_false]at ha;rcases ha with rfl|rfl;.exact ck3 hl hk k0 rfl
  .exact ck3 hl hk k1 rfl
 .intro v hv o0 o1 o2 t x y a;refine e04 (mw1 o0 o1 o2 t x y a) λk0 k1 k2 Z=>?_;simp only[List.mem_cons,List.not_mem_nil,or_false]at hv;rcases hv with rfl|rfl|rfl;.exact ck3 hl hk k0 rfl
  .exact ck3 hl hk k1 rfl
  .exact ck3 hl hk k2 rfl
 .intro v hv o0 o1 o2 t y;refine e06 (mw1 o0 o1 o2 t y y []) λZ Z Z k0 k1 k2=>?_;simp only[List.mem_cons,List.not_mem_nil,or_false]at hv;rcases hv with rfl|rfl|rfl;.exact ck3 hl hk k0 rfl
  .exact ck3 hl hk k1 rfl
  .exact ck3 hl hk k2 rfl
 .intro o0 o1 o2 o3 o4 o5 o6 o7 o8 o9 o10 o11;exact YF hl hk (sf1 o0 o1 o2 o3 o4 o5 o6 o7 o8 o9 o10 o11) rfl
 .intro o0 o1 o2;exact aDN o0 o1 o2
theorem ok2:W2.OK:=by
 have hl:W2.mid.length=W2.kn+1:=by decide +kernel
 have hk:W2.kn<100:=by decide +kernel
 refine⟨hl,⟨by decide +kernel,hk⟩,by kernel_rfl,by kernel_rfl,by kernel_rfl,?_,?_,?_,?_,?_,?_,?_⟩;.intro o0 o1 o2 t su;exact ck3 hl hk (kw2 o0 o1 o2 t su .none).1 rfl
 .intro p hp o0 o1 o2 t su x;refine CZ (kw2 o0 o1 o2 t su x) λZ k0 k1 k2 k3 k4 k5 k6 k7 k8 k9=>?_;have hp:p∈(us2,us2)::(kT,kT)::mF.map λp=>(p.1,canon false p):=hp;unfold mF canon at hp;simp only[List.map_cons,List.map_nil,List.mem_cons,List.not_mem_nil,or_false]at hp;rcases hp with rfl|rfl|rfl|rfl|rfl|rfl|rfl|rfl|rfl|rfl;.exact ck3 hl hk k0 rfl
  .exact ck3 hl hk k1 rfl
  .exact ck3 hl hk k2 rfl
  .exact ck3 hl hk k3 rfl
  .exact ck3 hl hk k4 rfl
  .exact ck3 hl hk k5 rfl
  .exact ck3 hl hk k6 rfl
  .exact ck3 hl hk k7 rfl
  .exact ck3 hl hk k8 rfl
  .exact ck3 hl hk k9 rfl
 .intro a ha o0 o1 o2 t su x;refine CZ (kw2 o0 o1 o2 t su x) λZ k0 k1 k2 k3 k4 k5 k6 k7 k8 k9=>?_;have ha:a∈us2::kT::[]:=ha;simp only[List.mem_cons,List.not_mem_nil,or_false]at ha;rcases ha with rfl|rfl;.exact ck3 hl hk k0 rfl
  .exact ck3 hl hk k1 rfl
 .intro v hv o0 o1 o2 t x y a;refine e04 (mw2 o0 o1 o2 t x y a) λk0 k1 k2 Z=>?_;simp only[List.mem_cons,List.not_mem_nil,or_false]at hv;rcases hv with rfl|rfl|rfl;.exact ck3 hl hk k0 rfl
  .exact ck3 hl hk k1 rfl
  .exact ck3 hl hk k2 rfl
 .intro v hv o0 o1 o2 t y;refine e06 (mw2 o0 o1 o2 t y y []) λZ Z Z k0 k1 k2=>?_;simp only[List.mem_cons,List.not_mem_nil,or_false]at hv;rcases hv with rfl|rfl|rfl;.exact ck3 hl hk k0 rfl
  .exact ck3 hl hk k1 rfl
  .exact ck3 hl hk k2 rfl
 .intro o0 o1 o2 o3 o4 o5 o6 o7 o8 o9 o10 o11;exact YF hl hk (sf2 o0 o1 o2 o3 o4 o5 o6 o7 o8 o9 o10 o11) rfl
 .intro o0 o1 o2;exact aDM o0 o1 o2
theorem ok3:W3.OK:=by
 have hl:W3.mid.length=W3.kn+1:=by decide +kernel
 have hk:W3.kn<100:=by decide +kernel
 refine⟨hl,⟨by decide +kernel,hk⟩,by kernel_rfl,by kernel_rfl,by kernel_rfl,?_,?_,?_,?_,?_,?_,?_⟩;.intro o0 o1 o2 t su;exact ck3 hl hk (kw3 o0 o1 o2 t su .none).1 rfl
 .intro p hp o0 o1 o2 t su x;refine CZ (kw3 o0 o1 o2 t su x) λZ k0 k1 k2 k3 k4 k5 k6 k7 k8 k9=>?_;have hp:p∈(us3,us3)::(kR,kR)::mF.map λp=>(p.1,canon false p):=hp;unfold mF canon at hp;simp only[List.map_cons,List.map_nil,List.mem_cons,List.not_mem_nil,or_false]at hp;rcases hp with rfl|rfl|rfl|rfl|rfl|rfl|rfl|rfl|rfl|rfl;.exact ck3 hl hk k0 rfl
  .exact ck3 hl hk k1 rfl
  .exact ck3 hl hk k2 rfl
  .exact ck3 hl hk k3 rfl
  .exact ck3 hl hk k4 rfl
  .exact ck3 hl hk k5 rfl
  .exact ck3 hl hk k6 rfl
  .exact ck3 hl hk k7 rfl
  .exact ck3 hl hk k8 rfl
  .exact ck3 hl hk k9 rfl
 .intro a ha o0 o1 o2 t su x;refine CZ (kw3 o0 o1 o2 t su x) λZ k0 k1 k2 k3 k4 k5 k6 k7 k8 k9=>?_;have ha:a∈us3::kR::[]:=ha;simp only[List.mem_cons,List.not_mem_nil,or_false]at ha;rcases ha with rfl|rfl;.exact ck3 hl hk k0 rfl
  .exact ck3 hl hk k1 rfl
 .intro v hv o0 o1 o2 t x y a;refine e04 (mw3 o0 o1 o2 t x y a) λk0 k1 k2 Z=>?_;simp only[List.mem_cons,List.not_mem_nil,or_false]at hv;rcases hv with rfl|rfl|rfl;.exact ck3 hl hk k0 rfl
  .exact ck3 hl hk k1 rfl
  .exact ck3 hl hk k2 rfl
 .intro v hv o0 o1 o2 t y;refine e06 (mw3 o0 o1 o2 t y y []) λZ Z Z k0 k1 k2=>?_;simp only[List.mem_cons,List.not_mem_nil,or_false]at hv;rcases hv with rfl|rfl|rfl;.exact ck3 hl hk k0 rfl
  .exact ck3 hl hk k1 rfl
  .exact ck3 hl hk k2 rfl
 .intro o0 o1 o2 o3 o4 o5 o6 o7 o8 o9 o10 o11;exact YF hl hk (sf3 o0 o1 o2 o3 o4 o5 o6 o7 o8 o9 o10 o11) rfl
 .intro o0 o1 o2;exact aDL o0 o1 o2
structure mK(R:List CS->Loc->St->Prop):Prop where
 step:∀{n c rc l l' σ σ'},stp n c l σ=.ok .next l' σ'->R rc l' σ'->R (c::rc) l σ
 ret:∀{n c rc l l' σ σ'},stp n c l σ=.ok (.ret (.bool true)) l' σ'->R (c::rc) l σ
 ren:∀{cs l l₂ σ aJ f},ReN f aJ σ->(∀i dB,nth l₂ i=some (some dB)->∃v,nth l i=some (some v)/\VN aJ.n f dB v)->R cs l₂ aJ->R cs l σ
theorem mK.blk{R:List CS->Loc->St->Prop}(H:mK R){rc:List CS}{l':Loc}{σ':St}(h:R rc l' σ'):∀{cs:List CS}{l:Loc}{σ:St},MD n cs l σ=.ok .next l' σ'->R (cs++rc) l σ:=by
 intro mN;cases mN with
 |nil=>intro l;intro σ;intro e;cases e;exact h
 |cons c cs=>intro l;intro σ;intro e;exact e22 (wR (show dY (MD n cs) (stp n c l σ)=_ from e)) λgF aG h1 h2=>H.step h1 (H.blk h h2)
inductive SN(m:Nat)(f:Nat->Nat):Option V->Option V->Prop where
 |none (b):SN m f none b
 |some {dB v}:VN m f dB v->SN m f (some dB) (some v)
inductive HB(m:Nat)(f:Nat->Nat):Loc->Loc->Prop where
 |nil (l:Loc):HB m f [] l
 |cons {a b l₂ l}:SN m f a b->HB m f l₂ l->HB m f (a::l₂) (b::l)
theorem HB.at{m f}{l₂ l:Loc}(h:HB m f l₂ l):∀i dB,nth l₂ i=some (some dB)->∃v,nth l i=some (some v)/\VN m f dB v:=by
 induction h with
 |nil l=>intro i dB e;cases e
 |@cons a b l₂ l q r ih=>
  intro i dB e;refine aLJ λaA=>?_;cases i with
  |zero=>
   have e:some a=some (some dB):=e;cases e;cases q with
   |some w=>refine aA ?_;exact⟨_,rfl,w⟩
  |succ i=>refine aA ?_;exact ih i dB e
theorem VN.ref'{m f}{i j:Nat}(h:i<m)(e:f i=j):VN m f (.ref i) (.ref j):=e▸.ref i h
theorem EZ{m f}:∀{l:List V},gR (λv=>match v with|.ref _=>false|.tup _=>false|.frz _=>false|_=>true) l=true->VNs m f l l:=by
 intro rE;induction rE with
 |nil=>intro _;exact .nil
 |cons v l aQ=>
  intro h;have h1:=gC h v (aL5 ..);have h2:gR (λv:V=>match v with|.ref _=>false|.tup _=>false|.frz _=>false|_=>true) l=true:=by rw[lH,List.all_eq_true];exactλx hx=>gC h x (aLM _ hx)
  refine .cons ?_ (aQ h2);cases v with
  |none=>exact .none
  |bool b=>exact .bool b
  |int i=>exact .int i
  |str s=>exact .str s
  |rng a b c=>exact .rng a b c
  |ref i=>cases h1
  |tup l=>cases h1
  |frz l=>cases h1
theorem AS{m k f}(hf:∀i,i<k->f i=i)(hk:k<=m):∀{v:V},mG k v=true->VN m f v v
 |.none=>λZ=>.none
 |.bool b=>λZ=>.bool b
 |.int i=>λZ=>.int i
 |.str s=>λZ=>.str s
 |.rng a b c=>λZ=>.rng a b c
 |.ref i=>λh=>.ref' (aLL (aC.mp h) hk) (hf i (aC.mp h))
 |.tup l=>λh=>.tup (EZ h)
 |.frz l=>λh=>by cases h
theorem EX{m k f}(hf:∀i,i<k->f i=i)(hk:k<=m):∀{l:List V},(∀v∈l,mG k v=true)->VNs m f l l:=by
 intro EF;induction EF with
 |nil=>intro _;exact .nil
 |cons v l aQ=>intro h;exact .cons (AS hf hk (h v (aL5 ..))) (aQ λx hx=>h x (aLM _ hx))
theorem EY{m k f}(hf:∀i,i<k->f i=i)(hk:k<=m):∀{l:List (Nat×V)},(∀p∈l,mG k p.2=true)->FN m f l l:=by
 intro EE;induction EE with
 |nil=>intro _;exact .nil
 |cons v l aQ=>intro h;exact .cons (AS hf hk (h v (aL5 ..))) (aQ λx hx=>h x (aLM _ hx))
theorem sT{m k f}(hf:∀i,i<k->f i=i)(hk:k<=m):∀{o:O},fV k o=true->ON m f o o
 |.list l=>λh=>.list (EX hf hk (gC (show gR (mG k) l=true from h)))
 |.inst c l=>λh=>.inst (EY hf hk (gC (show gR (λp:Nat×V=>mG k p.2) l=true from h)))
 |.dict l=>λh=>by cases h
 |.exc c l=>λh=>by cases h
noncomputable def fx(m:Nat)(js:List Nat)(i:Nat):Nat:=if i<m then i else (js[i-m]?).getD 0
theorem yY{W:Wd}(ok:W.OK)(o0:O)(os:List O):(W.obs o0 os).length=W.kn+2+os.length:=by unfold Wd.obs;simp[ok.len];try exact aGG
theorem jO{W:Wd}(ok:W.OK)(o0:O)(os:List O){i:Nat}(h:i<W.kn+2):(W.obs o0 os)[i]? = (o0::W.mid)[i]?:=by unfold Wd.obs;exact rwr (List.cons_append ..) (rwl (aL9 (by simp[ok.len];try exact aAD h) ..) rfl)
theorem dS{W:Wd}(ok:W.OK)(o0:O)(os:List O)(k:Nat):(W.obs o0 os)[W.kn+2+k]? = os[k]?:=by unfold Wd.obs;refine rwr (List.cons_append ..) (rwl (aMa (by simp[ok.len];try omega) ..) ?_);simp[ok.len]
theorem dP{W:Wd}(ok:W.OK)(o0:O)(os:List O):(aF (W.obs o0 os)).n=W.kn+2+os.length:=by rw[FK,yY ok]
theorem cE{W:Wd}(ok:W.OK)(o0:O)(os:List O)(h:os.length<100)(i:Nat):(aF (W.obs o0 os)).h.get i=(W.obs o0 os)[i]?:=BS _ (by rw[yY ok];have:=ok.kn;exact aGl h this) i
theorem yU{W:Wd}(ok:W.OK)(o0:O)(os:List O)(js:List Nat){σ:St}(h0:∀i,i<W.kn+2->σ.h.get i=(o0::W.mid)[i]?)(hj:js.length=os.length)(nd:js.Nodup)(hge:∀j∈js,W.kn+2<=j)(hat:∀(k j:Nat),js[k]? = some j->σ.h.get j=os[k]?)(p0:fV 0 o0=true)(ps:∀o∈os,fV 0 o=true)(hl:os.length<100):ReN (fx (W.kn+2) js) (aF (W.obs o0 os)) σ:=by
 have hk:=ok.kn;have hi:∀i,W.kn+2<=i->i<W.kn+2+os.length->∃j,js[i-(W.kn+2)]? = some j/\fx (W.kn+2) js i=j:=λi h1 h2=>by obtain⟨j,e⟩:∃j,js[i-(W.kn+2)]? = some j:=⟨_,aLN (aKe hj h1 h2)⟩;refine⟨j,e,?_⟩;unfold fx;rw[if_neg (aGw h1),e];rfl
 refine⟨by rw[dP ok];exact aGk hl hk,λi j h1 h2 e=>?_,λi h1=>?_,λi o e=>?_⟩
 .rw[dP ok]at h1 h2;by_cases a:i<W.kn+2
  .have ei:fx (W.kn+2) js i=i:=by unfold fx;rw[if_pos a]
   by_cases b:j<W.kn+2
   .have ej:fx (W.kn+2) js j=j:=by unfold fx;rw[if_pos b]
    rw[<- ei,<- ej];exact e
   .refine e12 (hi j (ID b) h2) λj' e1 e2=>?_;have:=hge j' (List.mem_of_getElem? e1);omega
  .refine e12 (hi i (ID a) h1) λi' e1 e2=>?_;by_cases b:j<W.kn+2
   .have ej:fx (W.kn+2) js j=j:=by unfold fx;rw[if_pos b]
    have:=hge i' (List.mem_of_getElem? e1);omega
   .refine e12 (hi j (ID b) h2) λj' e3 e4=>?_;have e5:i'=j':=aKf e e2 e4;subst e5;have:=(List.getElem?_inj (aKd hj h1 a) nd).mp (e1.trans e3.symm);omega
 .rw[dP ok]at h1;refine rwl (dP ok ..) ?_;refine rwl (cE ok _ _ hl ..) ?_;by_cases a:i<W.kn+2
  .have ei:fx (W.kn+2) js i=i:=by unfold fx;rw[if_pos a]
   refine rwl (ei ..) (rwl (jO ok _ _ a ..) (rwl (h0 i a ..) ?_));obtain⟨o,e⟩:∃o,(o0::W.mid)[i]? = some o:=⟨_,aLN (by simp[ok.len];exact aAD a)⟩;refine bM o o e e ?_;rcases List.mem_cons.mp (List.mem_of_getElem? e) with rfl|hm;.exact sT (λi h=>absurd h (Nat.not_lt_zero _)) (Nat.zero_le _) p0
   .exact sT (k:=W.kn+2) (λi h=>by unfold fx;rw[if_pos h]) (aGx) (gC ok.refs o hm)
  .refine e12 (hi i (ID a) h1) λj e1 e2=>?_;obtain⟨k,rfl⟩:∃k,i=W.kn+2+k:=⟨i-(W.kn+2),by exact aAe a⟩;refine rwl (e2 ..) (rwl (dS ok ..) ?_);have e3:=hat _ j e1;rw[show W.kn+2+k-(W.kn+2)=k by exact aGB]at e3;obtain⟨o,e⟩:∃o,os[k]? = some o:=⟨_,aLN (aJ5 h1)⟩;rw[e]at e3;exact bM o o e e3 (sT (λi h=>absurd h (Nat.not_lt_zero _)) (Nat.zero_le _) (ps o (List.mem_of_getElem? e)))
 .rw[cE ok _ _ hl]at e;refine rwl (dP ok ..) (rwr (yY ok o0 os ..) ?_);exact(List.getElem?_eq_some_iff.mp e).1
noncomputable abbrev lw(W:Wd)(x0 x1 x12 x13 x14 x15 x16 x17 x18 x19 x20 x21 x22 x23 x24:Option V):Loc:=[x0,x1,none,none,none,none,none,some (.ref 1),some (.ref 40),some (.str W.us),none,some (.ref W.kn),x12,x13,x14,x15,x16,x17,x18,x19,x20,x21,x22,x23,x24,none,none]
theorem mS{W:Wd}{m:Nat}{js:List Nat}(hm:W.kn+2<=m)(hk:41<W.kn+2){x0 x1 x12 x13 x14 x15 x16 x17 x18 x19 x20 x21 x22 x23 x24 y0 y1 y12 y13 y14 y15 y16 y17 y18 y19 y20 y21 y22 y23 y24:Option V}(h0:SN m (fx (W.kn+2) js) x0 y0)(h1:SN m (fx (W.kn+2) js) x1 y1)(h12:SN m (fx (W.kn+2) js) x12 y12)(h13:SN m (fx (W.kn+2) js) x13 y13)(h14:SN m (fx (W.kn+2) js) x14 y14)(h15:SN m (fx (W.kn+2) js) x15 y15)(h16:SN m (fx (W.kn+2) js) x16 y16)(h17:SN m (fx (W.kn+2) js) x17 y17)(h18:SN m (fx (W.kn+2) js) x18 y18)(h19:SN m (fx (W.kn+2) js) x19 y19)(h20:SN m (fx (W.kn+2) js) x20 y20)(h21:SN m (fx (W.kn+2) js) x21 y21)(h22:SN m (fx (W.kn+2) js) x22 y22)(h23:SN m (fx (W.kn+2) js) x23 y23)(h24:SN m (fx (W.kn+2) js) x24 y24):
 HB m (fx (W.kn+2) js) (lw W x0 x1 x12 x13 x14 x15 x16 x17 x18 x19 x20 x21 x22 x23 x24) (lw W y0 y1 y12 y13 y14 y15 y16 y17 y18 y19 y20 y21 y22 y23 y24):=by
 have lo:∀i,i<W.kn+2->SN m (fx (W.kn+2) js) (some (.ref i)) (some (.ref i)):=λi h=>.some (.ref' (aJ2 hm h) (by unfold fx;rw[if_pos h]));exact .cons h0 (.cons h1 (.cons (.none _) (.cons (.none _) (.cons (.none _) (.cons (.none _) (.cons (.none _) (.cons (lo 1 (ZY)) (.cons (lo 40 (aEZ hk)) (.cons (.some (.str _)) (.cons (.none _) (.cons (lo W.kn (OC)) (.cons h12 (.cons h13 (.cons h14 (.cons h15 (.cons h16 (.cons h17 (.cons h18 (.cons h19 (.cons h20 (.cons h21 (.cons h22 (.cons h23 (.cons h24 (.cons (.none _) (.cons (.none _) (.nil _)))))))))))))))))))))))))))
noncomputable def c10:CS:=(.for (.n 14) (.slice (.loc 0) (.c (.int 6)) (.c (.int 14))) [(.ex (.meth .append (.loc 13) [(.tup [(.sub (.glo 21) (.bin .fmod (.loc 14) (.c (.int 13)))),(.sub (.glo 22) (.bin .fmod (.bin .fdiv (.loc 14) (.c (.int 13))) (.c (.int 4))))])]))])
noncomputable def c11:CS:=(.asg (.n 15) (.sub (.loc 12) (.bin .fmod (.sub (.loc 1) (.c (.int 4))) (.bi .len [(.loc 12)]))))
noncomputable def c12:CS:=(.asg (.n 16) (.sub (.glo 23) (.bin .fmod (.sub (.loc 1) (.c (.int 5))) (.c (.int 4)))))
noncomputable def c13:CS:=(.asg (.n 17) (.call 78 [(.loc 13),(.loc 15),(.loc 9),(.loc 16)]))
noncomputable def c14:CS:=(.try [(.asg (.n 18) (.call 75 [(.new 9 [(.loc 13),(.call 72 []),(.loc 15),(.loc 16)]),(.loc 7)]))] 5 (some 19) [(.asg (.n 18) (.c .none)),(.ifs (.cmp .ne (.attr (.loc 19) 4) (.neg (.c (.int 1)))) [(.ret (.c (.bool false)))] [])])
noncomputable def c15:CS:=(.ifs (.cmp .ne (.loc 18) (.loc 17)) [(.ret (.c (.bool false)))] [])
noncomputable def c16:CS:=(.ifs (.and [(.cmp .isn (.loc 17) (.c .none)),(.cmp .ne (.call 79 [(.comp (.tup [(.loc 25),(.loc 26),(.c (.int 3))]) (.t [25,26]) (.loc 17) []),(.loc 7),(.loc 8)]) (.loc 15))]) [(.ret (.c (.bool false)))] [])
noncomputable def c17:CS:=(.asg (.n 20) (.bin .fmod (.sub (.loc 1) (.c (.int 1))) (.c (.int 11))))
noncomputable def c18:CS:=(.asg (.n 21) (.sub (.lst [(.c .none),(.c (.str [49])),(.c (.str [48])),(.c (.str [50])),(.c (.str []))]) (.bin .fmod (.sub (.loc 1) (.c (.int 2))) (.c (.int 5)))))
noncomputable def c19:CS:=(.asg (.n 22) (.lst [(.tup [(.c (.str [69,118,101,110,116])),(.c (.str [70,69,78])),(.c (.int 4))])]))
noncomputable def c20:CS:=(.asg (.n 23) (.loc 9))
noncomputable def c21:CS:=(.ifs (.cmp .lt (.loc 20) (.c (.int 10))) [(.ex (.meth .append (.loc 22) [(.tup [(.c (.str [70,69,78])),(.sub (.sub (.loc 11) (.loc 20)) (.c (.int 0))),(.bin .fmod (.sub (.loc 1) (.c (.int 3))) (.c (.int 1000)))])])),(.asg (.n 23) (.ife (.cmp .ne (.sub (.sub (.loc 11) (.loc 20)) (.c (.int 1))) (.c (.str []))) (.sub (.sub (.loc 11) (.loc 20)) (.c (.int 1))) (.bin .fmod (.sub (.loc 1) (.c (.int 3))) (.c (.int 1000)))))] [])
noncomputable def c22:CS:=(.ifs (.cmp .isn (.loc 21) (.c .none)) [(.asg (.n 24) (.bin .add (.c (.int 1000)) (.bin .fmod (.bin .fdiv (.sub (.loc 1) (.c (.int 3))) (.c (.int 1000))) (.c (.int 1000))))),(.ex (.meth .insert (.loc 22) [(.bin .add (.bin .fmod (.sub (.loc 1) (.c (.int 3))) (.c (.int 2))) (.c (.int 1))),(.tup [(.c (.str [83,101,116,85,112])),(.loc 21),(.loc 24)])])),(.ifs (.cmp .ne (.loc 21) (.ife (.cmp .lt (.loc 20) (.c (.int 10))) (.c (.str [49])) (.c (.str [48])))) [(.asg (.n 23) (.loc 24))] [])] [])
noncomputable def c23:CS:=(.ret (.cmp .eq (.call 79 [(.loc 22),(.loc 7),(.loc 8)]) (.loc 23)))
theorem aKV:DQ.drop 10=[c10,c11,c12,c13,c14,c15,c16,c17,c18,c19,c20,c21,c22,c23]:=rfl
theorem iH(s:St)(a b:Int)(h:b≠0):gA .fmod (.int a) (.int b) s=.ok (.int (Int.fmod a b)) s:=by refine(?_:ofO s (sel (eqB b 0) none (some (mkI (Int.fmod a b))))=_);rw[eO,decide_eq_false h,cF];rfl
theorem MV(s:St)(a b:Int)(h:b≠0)(hb:b.natAbs<1000000):gA .fdiv (.int a) (.int b) s=.ok (.int (Int.fdiv a b)) s:=by refine((rwl (eO ..) (rwl (decide_eq_false h ..) (rwl (cF ..) ?_))):ofO s (sel (eqB b 0) none (small 1000000 (Int.natAbs b) (mkI (Int.fdiv a b))))=_);unfold small;rw[mZ hb];rfl
theorem MW(s:St)(a b:Int):gA .add (.int a) (.int b) s=.ok (.int (a+b)) s:=by refine(?_:ofO s (some (mkI (Int.add a b)))=_);rw[cF];rfl
theorem iZ(a:Int)(L:Nat)(h:0<L):∃k,k<L/\Int.fmod a (L:Int)=Int.ofNat k:=by have h1:0<=Int.fmod a L:=Int.fmod_nonneg_of_pos a (aAa h);have h2:Int.fmod a L<L:=Int.fmod_lt_of_pos a (aAa h);exact⟨(Int.fmod a L).toNat,by omega,by simp;omega⟩
theorem UO(s:St)(l:List V)(k:Nat):item s (.tup l) (.int (.ofNat k))=l[k]?:=fA l k
theorem rS{s:St}{l:List V}(h:s.h.get n=some (.list l))(k:Nat):item s (.ref n) (.int (.ofNat k))=l[k]?:=by refine(?_:aP s n none _=_);rw[bK h];exact fA l k
noncomputable def nmT:List (List Nat):=[[69,118,101,110,116],[82,111,117,110,100],[66,108,97,99,107],[82,101,115,117,108,116],[83,101,116,85,112],[70,69,78],[69,67,79],[90,101,105,116],[97,95,49],[83,105,116,101],[68,97,116,101],[87,104,105,116,101],[66]]
noncomputable def vlT:List (List Nat):=[[63],[120,32,121],[49,45,48],[48]]
noncomputable def rsT:List (List Nat):=[[42],[49,45,48],[48,45,49],[49,47,50,45,49,47,50]]
theorem aKT:pX 21=.tup (nmT.map V.str):=rfl
theorem aJj:pX 22=.tup (vlT.map V.str):=rfl
theorem aJG:pX 23=.tup (rsT.map V.str):=rfl
theorem tK(s:St)(l:List (List Nat))(a:Int)(L:Nat)(h:0<L)(hl:l.length=L):∃x∈l,item s (.tup (l.map V.str)) (.int (Int.fmod a (L:Int)))=some (.str x):=e12 (iZ a L h) λk h1 h2=>rwl (h2 ..) (rwl (UO ..) (rwl (aL8 ..) (rwl (aLN (xF hl h1) ..) ⟨_,aMc (xF hl h1),rfl⟩)))
theorem LF{s:St}{l:List (List Nat)}(hs:s.h.get n=some (.list (l.map V.str)))(a:Int)(L:Nat)(h:0<L)(hl:l.length=L):∃x∈l,item s (.ref n) (.int (Int.fmod a (L:Int)))=some (.str x):=e12 (iZ a L h) λk h1 h2=>rwl (h2 ..) (rwl (rS hs ..) (rwl (aL8 ..) (rwl (aLN (xF hl h1) ..) ⟨_,aMc (xF hl h1),rfl⟩)))
def dQ(ts:List Tag):Prop:=∀q∈ts,q.2.2=[]/\∃x,q.2.1=.str x
noncomputable def tB:List CS:=[(.ex (.meth .append (.loc 13) [(.tup [(.sub (.glo 21) (.bin .fmod (.loc 14) (.c (.int 13)))),(.sub (.glo 22) (.bin .fmod (.bin .fdiv (.loc 14) (.c (.int 13))) (.c (.int 4))))])]))]
theorem aBW(m tg:Nat)(W:Wd)(x0 x1 x12 x15 x16 x17 x18 x19 x20 x21 x22 x23 x24:Option V)(a:Int)(ts:List Tag)(s:St)(ht:s.h.get tg=some (.list (aB ts)))(hl:ts.length<500):
 ∃nm vl,(E (m+20)).b tB (lw W x0 x1 x12 (some (.ref tg)) (some (.int a)) x15 x16 x17 x18 x19 x20 x21 x22 x23 x24) s=.ok .next (lw W x0 x1 x12 (some (.ref tg)) (some (.int a)) x15 x16 x17 x18 x19 x20 x21 x22 x23 x24) (bE s tg (.list (aB (ts++[(nm,.str vl,[])])))):=by
 refine aLJ λaA=>?_;refine e12 (tK s nmT a 13 (oo4) rfl) λnm Z e1=>?_;refine e12 (tK s vlT (Int.fdiv a 13) 4 (oo6) rfl) λvl Z e2=>?_;refine aA ?_;refine⟨nm,vl,?_⟩;unfold tB;simp only[x_b,mC,gD,aT,aN,aW,aK,aM,cJ,fS,jU,wH,jV,x_c,RE.bind_ok,bH];refine rwl (aKT ..) (rwl (aJj ..) (rwl (iH _ _ _ (by decide) ..) (rwl (jG _ ht ..) ?_)));simp only[RE.bind_ok,aI];refine rwl (show item s (.tup (nmT.map V.str)) (.int (Int.fmod a 13))=some (.str nm) from e1 ..) ?_;simp only[bG,RE.bind_ok];refine rwl (MV _ _ _ (by decide) (by decide) ..) ?_;simp only[RE.bind_ok];refine rwl (iH _ _ _ (by decide) ..) ?_;simp only[RE.bind_ok];refine rwl (show item s (.tup (vlT.map V.str)) (.int (Int.fmod (Int.fdiv a 13) 4))=some (.str vl) from e2 ..) ?_;simp only[bG,RE.bind_ok];refine rwl (WJ ..) ?_;simp only[aI,RE.bind_ok];refine rwl (yL ht (aEC hl) ..) ?_;simp only[aL,dM,aI,aZ,gE]
theorem aBU(m tg sl:Nat)(W:Wd)(x0 x1 x12 x15 x16 x17 x18 x19 x20 x21 x22 x23 x24:Option V)(xs:List Int)(htg:tg<900)(hne:sl≠tg):
 ∀(k i:Nat) (w:Option V) (ts:List Tag) (s:St),i+k=xs.length->s.h.get sl=some (.list (xs.map V.int))->s.h.get tg=some (.list (aB ts))->sl<s.n->ts.length+k<500->dQ ts->
  ∃w' ts' s',fO (E (m+20)) (.n 14) tB sl k i (lw W x0 x1 x12 (some (.ref tg)) w x15 x16 x17 x18 x19 x20 x21 x22 x23 x24) s=.ok .next (lw W x0 x1 x12 (some (.ref tg)) w' x15 x16 x17 x18 x19 x20 x21 x22 x23 x24) s'/\s'.n=s.n/\Gr s s' tg/\s'.h.get tg=some (.list (aB ts'))/\dQ ts'/\ts'.length=ts.length+k:=by
 intro x9;induction x9 with
 |zero=>
  intro i w ts s hik hsl ht hn hl hg;refine aBo w ts s (rwl (fM ..) (rwl (bK hsl ..) ?_)) rfl (Gr.refl _ _) ht hg rfl;have:Nat.beq (bC (xs.map V.int)) i=true:=by rw[aD,aLX,show xs.length=i by exact BD hik];exact Nat.beq_refl _
  rw[this];rfl
 |succ k aQ=>
  intro i w ts s hik hsl ht hn hl hg;refine aLJ λaA=>?_;have hi:i<xs.length:=uY hik;have hnth:nth (xs.map V.int) i=some (.int xs[i]):=by rw[fA,aL8,aLN hi];rfl
  refine e21 (aBW m tg W x0 x1 x12 x15 x16 x17 x18 x19 x20 x21 x22 x23 x24 xs[i] ts s ht (aGK hl)) λnm vl e=>aA (rwl (SM ..) (rwl (bK hsl ..) (rwl (hnth ..) ?_)));simp only[cP,cR,bY,dE];refine rwl (e ..) ?_;simp only[yK];refine aLJ λaA=>?_;obtain⟨w',ts',s',e2,n2,g2,t2,h2,l2⟩:=aQ (i+1) (some (.int xs[i])) (ts++[(nm,.str vl,[])]) (bE s tg (.list (aB (ts++[(nm,.str vl,[])])))) (yX hik)
   (by rw[aS _ _ (cS htg),if_neg hne];exact hsl) (by rw[aS _ _ (cS htg),if_pos rfl]) hn (by simp;exact aGL hl) (λq hq=>by
    rcases List.mem_append.mp hq with h|h;.exact hg q h
    .rw[List.mem_singleton.mp h];exact⟨rfl,_,rfl⟩)
  exact aA (aBo w' ts' s' e2 n2 ((oP _ _ _ (cS htg)).trans g2) t2 h2 (by rw[l2];simp;exact OP))
theorem s10(tg:Nat)(W:Wd)(x1 x12:Option V)(ns:List Int)(s:St)(ht:s.h.get tg=some (.list (aB [])))(htn:tg<s.n)(hn:s.n<900):
 ∃w ts s',stp 25 c10 (lw W (some (.frz (ns.map V.int))) x1 x12 (some (.ref tg)) none none none none none none none none none none none) s=.ok .next (lw W (some (.frz (ns.map V.int))) x1 x12 (some (.ref tg)) w none none none none none none none none none none) s'/\s'.n=s.n+1/\Gr s s' tg/\s'.h.get tg=some (.list (aB ts))/\dQ ts/\ts.length<=8/\s'.h.get s.n=some (.list (((ns.drop 6).take 8).map V.int)):=by
 unfold c10;simp only[HF,UM,aT,aN,aK,aM,x_c,RE.bind_ok];have e:kN s (.frz (ns.map V.int)) (.int 6) (.int 14)=cZ s (((ns.drop 6).take 8).map V.int):=by refine(?_:cZ s (AG (DA (ns.map V.int) 6) 8)=_);exact rwl (sK ..) (rwl (tZ ..) (rwl (List.map_take ..) (rwl (List.map_drop ..) rfl)))
 have hlen:((ns.drop 6).take 8).length<=8:=List.length_take_le _ _;refine rwl (e ..) ?_;generalize (ns.drop 6).take 8=xs at hlen;refine rwl (fI _ (cS hn) (by rw[aLX];exact aEn hlen) ..) ?_;simp only[aL];have hs:(aV s (.list (xs.map V.int))).h.get s.n=some (.list (xs.map V.int)):=by rw[aY _ (cS hn),if_pos rfl]
 refine rwl (EB hs ..) ?_;refine aLJ λaA=>?_;obtain⟨w,ts,s',e2,n2,g2,t2,h2,l2⟩:=aBU 5 tg s.n W (some (.frz (ns.map V.int))) x1 x12 none none none none none none none none none none xs (aFU htn hn) (aAw htn) (xs.map V.int).length 0 none [] (aV s (.list (xs.map V.int))) (by simp) hs
  (by rw[aY _ (cS hn),if_neg (qU htn)];exact ht) (by rw[bN];exact AW) (by simp;exact aEm hlen) (λq hq=>by cases hq)
 refine aA ?_;refine aIG w ts s' e2 n2 ((fZ _ _ _ (cS hn)).trans g2) t2 h2 (by rw[l2];simp;exact aEl hlen) ?_;rw[g2.h s.n (by rw[bN];exact AW) (aAw htn)];exact hs
theorem UU{o o':O}(f:Nat):∀(t:Tr) (i:Nat),(t.upd o f i).upd o' f i=t.upd o' f i:=by
 induction f with
 |zero=>intro t i;rfl
 |succ f ih=>
  have N:∀v l r i,(Tr.upd o (f+1) (.node v l r) i).upd o' (f+1) i=Tr.upd o' (f+1) (.node v l r) i:=by
   intro v l r i;rw[Tr.upd_node,Tr.upd_node];by_cases q:i=0;.rw[if_pos q,if_pos q,Tr.upd_node,if_pos q]
   .rw[if_neg q,if_neg q];by_cases q2:i % 2=1;.rw[if_pos q2,if_pos q2,Tr.upd_node,if_neg q,if_pos q2,ih]
    .rw[if_neg q2,if_neg q2,Tr.upd_node,if_neg q,if_neg q2,ih]
  intro t i;cases t with
  |nil=>exact N none .nil .nil i
  |node v l r=>exact N v l r i
theorem lP(s:St)(o o':O):bE (aV s o) s.n o'=aV s o':=by delta bE aV;dsimp only;exact rwl (UU ..) rfl
theorem rR{s:St}{g c:Nat}{fs:List (Nat×V)}(h:s.h.get g=some (.inst c fs))(hl:fs.length<1000)(a:Nat)(v:V):setA s (.ref g) a v=some (bE s g (.inst c (iM fs a v))):=by unfold setA;dsimp only[vR];rw[h];dsimp only[oO];rw[aD,mZ hl];rfl
theorem gB(s:St)(o:O)(h:s.n<1000):(aV s o).h.get s.n=some o:=by rw[aY _ h,if_pos rfl]
theorem LQ(m:Nat)(t r st re:V)(s:St)(h:s.n<900):aR (E (m+10)) (aU (dF 9)) [.ref s.n,t,r,st,re] (aV s (.inst 9 []))=.ok .none (aV s (.inst 9 [(31,t),(32,r),(33,st),(34,re)])):=by refine rwl (show aR (E (m+10)) (aU (dF 9)) [.ref s.n,t,r,st,re] (aV s (.inst 9 []))=((E (m+10)).b lG [some (.ref s.n),some t,some r,some st,some re] (aV s (.inst 9 []))).out from rfl ..) ?_;unfold lG;simp only[x_b];refine rwl (pC ..) ?_;simp only[aT,aN,aW,aK,aM,aL];refine rwl (rR (gB _ _ (cS h)) (by simp) ..) (rwl (lP ..) (rwl (show iM [] 31 t=[(31,t)] from rfl ..) ?_));simp only[iB,aZ,x_b];rw[pC];simp only[aT,aN,aW,aK,aM,aL];refine rwl (rR (gB _ _ (cS h)) (by simp) ..) (rwl (lP ..) (rwl (show iM [(31,t)] 32 r=[(31,t),(32,r)] from rfl ..) ?_));simp only[iB,aZ,x_b];rw[pC];simp only[aT,aN,aW,aK,aM,aL];refine rwl (rR (gB _ _ (cS h)) (by simp) ..) (rwl (lP ..) (rwl (show iM [(31,t),(32,r)] 33 st=[(31,t),(32,r),(33,st)] from rfl ..) ?_));simp only[iB,aZ,x_b];rw[pC];simp only[aT,aN,aW,aK,aM,aL];refine rwl (rR (gB _ _ (cS h)) (by simp) ..) (rwl (lP ..) (rwl (show iM [(31,t),(32,r),(33,st)] 34 re=[(31,t),(32,r),(33,st),(34,re)] from rfl ..) ?_));simp only[iB,aZ,gE,DZ]
theorem aBI{s:St}{l:List V}(h:s.h.get n=some (.list l)):bi .len [.ref n] s=.ok (.int (.ofNat l.length)) s:=by refine(?_:aP s n RE.stuck _=_);exact rwl (bK h ..) (rwl (aD ..) (rwl (cF ..) rfl))
noncomputable def cL(a0 a1 a2 a3 a4 a5:Int):O:=.list [.int a0,.int a1,.int a2,.int a3,.int a4,.int a5]
section
variable {W:Wd}{s:St}{a0 a1 a2 a3 a4 a5:Int}{x0 x12 x13 x14 x15 x16 x17 x18 x19 x20 x21 x22 x23 x24:Option V}
theorem qK(h:s.h.get 0=some (cL a0 a1 a2 a3 a4 a5))(k:Nat)(v:V)(hk:[V.int a0,.int a1,.int a2,.int a3,.int a4,.int a5][k]? = some v):item s (.ref 0) (.int (.ofNat k))=some v:=rwl (rS (n:=0) h ..) (rwl (hk ..) rfl)
theorem s11(h0:s.h.get 0=some (cL a0 a1 a2 a3 a4 a5)){ks:Nat}{l:List (List Nat)}(hs:s.h.get ks=some (.list (l.map V.str)))(hl:0<l.length):
 ∃st∈l,stp 20 c11 (lw W x0 (some (.ref 0)) (some (.ref ks)) x13 x14 x15 x16 x17 x18 x19 x20 x21 x22 x23 x24) s=.ok .next (lw W x0 (some (.ref 0)) (some (.ref ks)) x13 x14 (some (.str st)) x16 x17 x18 x19 x20 x21 x22 x23 x24) s:=by
 refine e12 (LF hs a4 l.length hl rfl) λst h1 h2=>?_;refine⟨st,h1,?_⟩;unfold c11;simp only[eQ,jU,aT,aN,aW,aK,aM,jV,x_c,RE.bind_ok,aBL,cJ,bH,cR,dE,bY,cP];refine rwl (show item s (.ref 0) (.int 4)=some (.int a4) from qK h0 4 _ rfl ..) ?_;simp only[bG,RE.bind_ok];refine rwl (aBI hs ..) (rwl (aLX ..) ?_);simp only[RE.bind_ok];refine rwl (iH _ _ _ (λe=>by have:=Int.ofNat.inj (show Int.ofNat l.length=Int.ofNat 0 from e);exact aE6 hl this) ..) ?_;simp only[RE.bind_ok];refine rwl (show item s (.ref ks) (.int (Int.fmod a4 (.ofNat l.length)))=some (.str st) from h2 ..) ?_;simp only[bG,aL]
theorem s12(h0:s.h.get 0=some (cL a0 a1 a2 a3 a4 a5)):
 ∃re,stp 20 c12 (lw W x0 (some (.ref 0)) x12 x13 x14 x15 x16 x17 x18 x19 x20 x21 x22 x23 x24) s=.ok .next (lw W x0 (some (.ref 0)) x12 x13 x14 x15 (some (.str re)) x17 x18 x19 x20 x21 x22 x23 x24) s:=by
 refine e12 (tK s rsT a5 4 (oo6) rfl) λre h1 h2=>?_;refine⟨re,?_⟩;unfold c12;simp only[eQ,jU,wH,jV,aT,aN,aW,aK,aM,x_c,RE.bind_ok,cR,dE,bY,cP];refine rwl (show item s (.ref 0) (.int 5)=some (.int a5) from qK h0 5 _ rfl ..) ?_;simp only[bG,RE.bind_ok];refine rwl (aJG ..) (rwl (iH _ _ _ (by decide) ..) ?_);simp only[RE.bind_ok];refine rwl (show item s (.tup (rsT.map V.str)) (.int (Int.fmod a5 4))=some (.str re) from h2 ..) ?_;simp only[bG,aL]
theorem s13{t:Nat}{st re:List Nat}(ht:s.h.get t=some (.list (aB ts)))(htn:t<s.n)(hg:dQ ts)(hl:ts.length<20)(hn:s.n<700):
 (∃s',stp 395 c13 (lw W x0 (some (.ref 0)) x12 (some (.ref t)) x14 (some (.str st)) (some (.str re)) x17 x18 x19 x20 x21 x22 x23 x24) s=.ok .next (lw W x0 (some (.ref 0)) x12 (some (.ref t)) x14 (some (.str st)) (some (.str re)) (some .none) x18 x19 x20 x21 x22 x23 x24) s'/\¬(ts.map (·.1)).Nodup/\Gr s s' s.n)\/
 (∃s' o,stp 395 c13 (lw W x0 (some (.ref 0)) x12 (some (.ref t)) x14 (some (.str st)) (some (.str re)) x17 x18 x19 x20 x21 x22 x23 x24) s=.ok .next (lw W x0 (some (.ref 0)) x12 (some (.ref t)) x14 (some (.str st)) (some (.str re)) (some (.ref o)) x18 x19 x20 x21 x22 x23 x24) s'/\(ts.map (·.1)).Nodup/\s.n<=o/\Gr s s' s.n/\s'.h.get o=some (.list (aB (AA ts st W.us (.str re))))):=by
 refine aLJ λaA=>?_;rcases WN 354 t st W.us (.str re) ts s ht htn (λq hq=>(hg q hq).1) hl hn with⟨s',e,h⟩|⟨s',o,e,h⟩;.refine aA ?_;refine .inl ⟨s',?_,h⟩;unfold c13;simp only[eQ,fJ,cJ,aT,aN,aW,aK,aM,bH,RE.bind_ok,cR,dE,bY,cP];refine rwl (e ..) ?_;simp only[aL]
 .refine aA ?_;refine .inr ⟨s',o,?_,h⟩;unfold c13;simp only[eQ,fJ,cJ,aT,aN,aW,aK,aM,bH,RE.bind_ok,cR,dE,bY,cP];rw[e];simp only[aL]
end
theorem oE(W:Wd)(o0:O)(os:List O)(o:O):aV (aF (W.obs o0 os)) o=aF (W.obs o0 (os++[o])):=by rw[KW];unfold Wd.obs;rw[List.cons_append,List.append_assoc]
theorem aBG{s:St}(c:Nat)(k:Nat->St->RE V)(h:s.n<1000):s.new (.inst c []) k=k s.n (aV s (.inst c [])):=EA _ _ h
theorem XD{n e:Nat}{s:St}{fs:List (Nat×V)}{h:List CS}(he:s.h.get e=some (.exc 5 fs)):gG kK (E n) 5 (some 19) h e l s=((E n).b h (bZ l 19 (some (.ref e))) s).clr 19:=by unfold gG;rw[he];rfl
theorem aDi(s:St)(a b:Int):cT s .ne (.int a) (.int b)=some (!decide (a=b)):=by refine(?_:uZ (some (eqB a b))=_);rw[eO,<- gO];rfl
theorem s14{W:Wd}(ok:W.OK){o0 o2:O}{st re:List Nat}{x0 x1 x12 x14 x17 x18 x20 x21 x22 x23 x24:Option V}(hg:dQ ts)(hl:ts.length<=8):
 (∃s',stp 395 c14 (lw W x0 x1 x12 (some (.ref (W.kn+2))) x14 (some (.str st)) (some (.str re)) x17 x18 none x20 x21 x22 x23 x24) (aF (W.obs o0 [.list (aB ts),o2]))=.ok .next (lw W x0 x1 x12 (some (.ref (W.kn+2))) x14 (some (.str st)) (some (.str re)) x17 (some .none) none x20 x21 x22 x23 x24) s'/\¬(ts.map (·.1)).Nodup/\Gr (aF (W.obs o0 [.list (aB ts),o2])) s' (W.kn+4))\/
 (∃s' f,stp 395 c14 (lw W x0 x1 x12 (some (.ref (W.kn+2))) x14 (some (.str st)) (some (.str re)) x17 x18 none x20 x21 x22 x23 x24) (aF (W.obs o0 [.list (aB ts),o2]))=.ok .next (lw W x0 x1 x12 (some (.ref (W.kn+2))) x14 (some (.str st)) (some (.str re)) x17 (some (.ref f)) none x20 x21 x22 x23 x24) s'/\(ts.map (·.1)).Nodup/\W.kn+4<=f/\Gr (aF (W.obs o0 [.list (aB ts),o2])) s' (W.kn+4)/\s'.h.get f=some (.list (aB (bO ts st W.us (.str re))))):=by
 have hk:=ok.kn;generalize hS:aF (W.obs o0 [.list (aB ts),o2,gnO (W.kn+4),.list [],.list [],.list [],.list []])=S;have nS:S.n=W.kn+9:=by rw[<- hS,dP ok];rfl
 generalize hS2:aV S (.inst 9 [(31,.ref (W.kn+2)),(32,.ref (W.kn+4)),(33,.str st),(34,.str re)])=S2;have nS2:S2.n=W.kn+10:=by rw[<- hS2,bN,nS]
 have eS2:S2=aF (W.obs o0 [.list (aB ts),o2,gnO (W.kn+4),.list [],.list [],.list [],.list [],.inst 9 [(31,.ref (W.kn+2)),(32,.ref (W.kn+4)),(33,.str st),(34,.str re)]]):=by rw[<- hS2,<- hS,oE];rfl
 have gt:S2.h.get (W.kn+2)=some (.list (aB ts)):=by rw[eS2,cE ok _ _ (by simp)];exact dS ok _ _ 0
 have gg:S2.h.get S.n=some (.inst 9 [(31,.ref (W.kn+2)),(32,.ref (W.kn+4)),(33,.str st),(34,.str re)]):=by rw[<- hS2,gB _ _ (aAM hk nS)]
 have low:∀i,i<W.kn+4->S2.h.get i=(aF (W.obs o0 [.list (aB ts),o2])).h.get i:=λi h=>by
  refine rwl (eS2 ..) (rwl (cE ok _ _ (by simp) ..) (rwl (cE ok _ _ (by simp) ..) ?_));by_cases q:i<W.kn+2;.exact rwl (jO ok _ _ q ..) (rwl (jO ok _ _ q ..) rfl)
  .obtain⟨k,rfl⟩:∃k,i=W.kn+2+k:=⟨i-(W.kn+2),by exact aAe q⟩;refine rwl (dS ok ..) (rwl (dS ok ..) ?_);have:k=0\/k=1:=aGA h;rcases this with rfl|rfl<;>rfl
 have gr:∀{s':St},Gr S2 s' S2.n->Gr (aF (W.obs o0 [.list (aB ts),o2])) s' (W.kn+4):=λ{s'} g=>by have n0:(aF (W.obs o0 [.list (aB ts),o2])).n=W.kn+4:=dP ok _ _;have:=g.n;exact⟨by exact aD5 nS2 n0 this,λi h1 h2=>by rw[g.h i (aD4 nS2 n0 h1) (aKj nS2 n0 h1),low i (aHg n0 h1)]⟩
 unfold c14;refine rwl (YJ ..) ?_;simp only[x_b,eQ,fJ,cJ,aDh,aT,aN,aW,aK,aM,bH,RE.bind_ok,cR,dE,bY,cP];refine rwl (ok.root ..) (rwl (hS ..) ?_);simp only[RE.bind_ok];refine rwl (aBG _ _ (aAM hk nS) ..) ?_;refine rwl (LQ 382 _ _ _ _ S (aGQ hk nS) ..) (rwl (hS2 ..) ?_);simp only[RE.bind_ok,dM,aI];refine aLJ λaA=>?_;rcases aCP S.n (W.kn+2) 9 _ ts S2 gg rfl gt (aEo hl) (aGU hk nS2) with⟨s',e,nd,g,hlt,fs,h1,h2⟩|⟨hc,nd⟩;.refine aA ?_;left;refine⟨s',?_,nd,gr g⟩;refine rwl (e ..) ?_;simp only[HI,MS];show gG kK (E 395) 5 (some 19) _ _ _ _=_;refine rwl (XD h1 ..) ?_;simp only[dE,bY,x_b,eQ,x_c,cR,cP,aL,aZ,pD,eL,eP,jH,aT,aN,aW,aK,aM,RE.bind_ok,nH,mL,gE];refine rwl (aBK h1 ..) (rwl (h2 ..) ?_);simp only[bG,RE.bind_ok];refine rwl (YK ..) ?_;simp only[x_c,RE.bind_ok];rw[show BR s' (.int 1)=.ok (.int (-1)) s' from by unfold BR;dsimp only[vI];rw[cF];rfl];simp only[RE.bind_ok];refine rwl (aDi ..) ?_;rfl
 .refine aA ?_;right;refine aLJ λaA=>?_;obtain⟨s',f,e,h1,h2,g,h3⟩:=XQ S.n (W.kn+2) (.ref (W.kn+4)) (.str re) st W.us ts S2 gg gt (ZE hl) (aGV hk nS2) (aHf nS nS2) (aFK nS2) hg nd hc (λA B C=>by
   refine rwl (eS2 ..) (rwl (oE ..) (rwl (oE ..) (rwl (oE ..) (e13 (ok.sf o0 (.list (aB ts)) o2 (gnO (W.kn+4)) (.list []) (.list []) (.list []) (.list []) (.inst 9 [(31,.ref (W.kn+2)),(32,.ref (W.kn+4)),(33,.str st),(34,.str re)]) A B C) λs5 a b c=>⟨s5,a,?_,c⟩))));have en:(aF (W.obs o0 [.list (aB ts),o2,gnO (W.kn+4),.list [],.list [],.list [],.list [],.inst 9 [(31,.ref (W.kn+2)),(32,.ref (W.kn+4)),(33,.str st),(34,.str re)]])).n=W.kn+10:=dP ok _ _;rw[en];exact b)
  refine aA ?_;refine SU s' f ?_ nd (aHn nS2 h1) (gr g) h3;rw[e];simp only[aL,aZ,gE]
theorem XZ(a:List Nat)(x:List Nat):eqL [.str a,.str x] [.str a,.str x]=some true:=by rw[oU,oU,rW,rW,decide_eq_true rfl,decide_eq_true rfl];rfl
theorem LW:∀{ts:List Tag},dQ ts->CX (aB ts) (aB ts)=some true:=by
 intro uT;induction uT with
 |nil=>intro _;exact rfl
 |cons t ts aQ=>intro h;obtain⟨a,x,r⟩:=t;obtain⟨h1,y,h2⟩:=h _ (aL5 ..);cases h1;cases h2;refine(?_:CX (.tup [.str a,.str y]::aB ts) (.tup [.str a,.str y]::aB ts)=_);rw[xZ,aQ λq hq=>h q (aLM _ hq),SY,XZ];rfl
theorem aJF{W:Wd}{s:St}{x0 x1 x12 x13 x14 x15 x16 x19 x20 x21 x22 x23 x24:Option V}:stp 20 c15 (lw W x0 x1 x12 x13 x14 x15 x16 (some .none) (some .none) x19 x20 x21 x22 x23 x24) s=.ok .next (lw W x0 x1 x12 x13 x14 x15 x16 (some .none) (some .none) x19 x20 x21 x22 x23 x24) s:=by unfold c15;simp only[pD,eL,eP,aT,aN,aW,aK,aM,RE.bind_ok,x_b,nH,x_c,aL,mL,gE];refine rwl (show cT s .ne .none .none=some false from rfl ..) ?_;simp only[cX,RE.bind_ok,eX,bG,aL,cK]
theorem s15{W:Wd}{s:St}{x0 x1 x12 x13 x14 x15 x16 x19 x20 x21 x22 x23 x24:Option V}{f w:Nat}(h1:s.h.get f=some (.list (aB ts)))(h2:s.h.get w=some (.list (aB ts)))(hg:dQ ts):
 stp 20 c15 (lw W x0 x1 x12 x13 x14 x15 x16 (some (.ref w)) (some (.ref f)) x19 x20 x21 x22 x23 x24) s=.ok .next (lw W x0 x1 x12 x13 x14 x15 x16 (some (.ref w)) (some (.ref f)) x19 x20 x21 x22 x23 x24) s:=by
 unfold c15;simp only[pD,eL,eP,aT,aN,aW,aK,aM,RE.bind_ok,x_b,nH,x_c,aL,mL,gE];have:cT s .ne (.ref f) (.ref w)=some false:=by refine(?_:uZ (aP s f none _)=_);rw[bK h1,bK h2,LW hg];rfl
 refine rwl (this ..) ?_;simp only[cX,RE.bind_ok,eX,bG,aL,cK]
theorem aJE{W:Wd}{s:St}{x0 x1 x12 x13 x14 x15 x16 x18 x19 x20 x21 x22 x23 x24:Option V}:stp 20 c16 (lw W x0 x1 x12 x13 x14 x15 x16 (some .none) x18 x19 x20 x21 x22 x23 x24) s=.ok .next (lw W x0 x1 x12 x13 x14 x15 x16 (some .none) x18 x19 x20 x21 x22 x23 x24) s:=by unfold c16;simp only[pD,eL,zZ,sD,eP,aT,aN,aW,aK,aM,x_c,RE.bind_ok,x_b,nH,aL,mL,gE];refine rwl (show cT s .isn .none .none=some false from rfl ..) ?_;simp only[cX,RE.bind_ok,rT,eX,bG,aL,cK]
theorem tV{n:List Nat}:∀{l:List Tag},(∀q∈l,q.1≠n)->bW n l=none:=by
 intro mN;induction mN with
 |nil=>intro _;exact rfl
 |cons t l aQ=>intro h;rw[bW,if_neg (h t (aL5 ..))];exact aQ λq hq=>h q (aLM _ hq)
theorem tU{n:List Nat}{t:Tag}{l:List Tag}:(∃q∈l,q.1=n)->(∀q∈l,q.1=n->q=t)->bW n l=some t:=by
 induction l with
 |nil=>intro h;obtain⟨q,h,Z⟩:=h;cases h
 |cons x l ih=>
  intro h hu;refine e12 h λq h e=>?_;rw[bW];by_cases z:x.1=n;.exact rwl (if_pos z ..) (rwl (hu x (aL5 ..) z ..) rfl)
  .refine rwl (if_neg z ..) (ih ⟨q,?_,e⟩ λq hq=>hu q (aLM _ hq));rcases List.mem_cons.mp h with rfl|h;.exact absurd e z
   .exact h
theorem KH(hg:dQ ts):∀q∈eA (dI ts) eJ,q.2.2=[]/\(∃x,q.2.1=.str x)/\q.1∈roN:=by
 intro q hq;unfold eA at hq;refine e12 (List.mem_map.mp hq) λp hp bF=>?_;subst bF;have h1:(∃x,p.2=.str x)/\p.1∈roN:=by unfold eJ at hp;simp only[List.mem_cons,List.not_mem_nil,or_false]at hp;rcases hp with rfl|rfl|rfl|rfl|rfl|rfl<;>exact⟨⟨_,rfl⟩,by decide⟩
 refine⟨rfl,?_,h1.2⟩;dsimp only;cases e:cN (dI ts) p.1 with
 |none=>exact h1.1
 |some v=>
  rw[xW]at e;refine e12 (Option.map_eq_some_iff.mp e) λt h2 bF=>?_;subst bF;have:t∈ts:=by
   clear hg hq hp e h1;induction ts with
   |nil=>cases h2
   |cons a ts ih=>
    rw[bW]at h2;split at h2
    .cases h2;exact aL5 ..
    .exact aLM _ (ih h2)
  exact(hg t this).2
set_option tactic.hygienic true in
theorem xV{st us re:List Nat}(hg:dQ ts){q:Tag}(h:q∈bO ts st us (.str re)):(q.2.2=[]/\∃x,q.2.1=.str x)/\(q.1∈roN\/q.1=[82,101,115,117,108,116]\/(q.1∉owN)\/(st≠us/\(q=([70,69,78],.str st,[])\/q=([83,101,116,85,112],.str [49],[])))):=by
 unfold bO at h;refine aLJ λaA=>?_;rcases List.mem_append.mp h with h|h
 .rcases List.mem_append.mp h with h|h;.exact e03 (KH hg q h) λa b c=>aA ⟨⟨a,b⟩,.inl c⟩
  .exact aA (rwl (List.mem_singleton.mp h ..) ⟨⟨rfl,_,rfl⟩,.inr (.inl rfl)⟩)
 .have h:=dD.mp h;refine aA ⟨AQ hg q h,?_⟩;unfold eK at h;refine aLJ λaA=>?_;rcases List.mem_append.mp h with h|h;.have h2:=(List.mem_filter.mp h).2;unfold fU at h2;simp only[Bool.and_eq_true,Bool.not_eq_true',decide_eq_false_iff_not]at h2;exact aA (.inr (.inr (.inl h2.2)))
  .split at h;.exact False.elim (by cases h)
   .rename_i z;refine aA (.inr (.inr (.inr ⟨z,?_⟩)));rcases List.mem_cons.mp h with h|h;.exact .inl h
    .exact .inr (List.mem_singleton.mp h)
theorem tT{st us re:List Nat}(hg:dQ ts):dQ (bO ts st us (.str re)):=λq h=>(xV hg h).1
noncomputable def to3(q:Tag):Tag:=(q.1,q.2.1,[.int 3])
theorem lW{st us re:List Nat}(hg:dQ ts){q:Tag}(h:q∈bO ts st us (.str re))(hn:q.1=feN\/q.1=suN):st≠us/\(q=([70,69,78],.str st,[])\/q=([83,101,116,85,112],.str [49],[])):=by
 rcases(xV hg h).2 with h|h|h|h;.rcases hn with e|e<;>rw[e]at h<;>exact absurd h (by decide)
 .rcases hn with e|e<;>rw[e]at h<;>exact absurd h (by decide)
 .rcases hn with e|e<;>rw[e]at h<;>exact absurd h (by decide)
 .exact h
theorem GC{us re:List Nat}(hg:dQ ts):bW feN ((bO ts us us (.str re)).map to3)=none/\bW suN ((bO ts us us (.str re)).map to3)=none:=by
 refine⟨tV λq hq e=>?_,tV λq hq e=>?_⟩;.refine e12 (List.mem_map.mp hq) λp hp bF=>?_;subst bF;exact(lW hg hp (.inl e)).1 rfl
 .refine e12 (List.mem_map.mp hq) λp hp bF=>?_;subst bF;exact(lW hg hp (.inr e)).1 rfl
theorem GB{st us re:List Nat}(hg:dQ ts)(hne:st≠us):bW feN ((bO ts st us (.str re)).map to3)=some (feN,.str st,[.int 3])/\bW suN ((bO ts st us (.str re)).map to3)=some (suN,.str [49],[.int 3]):=by
 have mem:∀q:Tag,q∈[(([70,69,78]:List Nat),V.str st,([]:List V)),([83,101,116,85,112],.str [49],[])]->to3 q∈(bO ts st us (.str re)).map to3:=λq h=>by refine List.mem_map.mpr ⟨q,?_,rfl⟩;delta bO eK;exact rwl (if_neg hne ..) (List.mem_append.mpr (.inr (dD.mpr (List.mem_append.mpr (.inr h)))))
 refine⟨tU ⟨_,mem _ (aL5 ..),rfl⟩ λq hq e=>?_,tU ⟨_,mem _ (aLM _ (aL5 ..)),rfl⟩ λq hq e=>?_⟩
 .refine e12 (List.mem_map.mp hq) λp hp bF=>?_;subst bF;rcases(lW hg hp (.inl e)).2 with rfl|rfl;.rfl
  .exact absurd (show suN=feN from e) (by decide)
 .refine e12 (List.mem_map.mp hq) λp hp bF=>?_;subst bF;rcases(lW hg hp (.inr e)).2 with rfl|rfl;.exact absurd (show feN=suN from e) (by decide)
  .rfl
theorem aIQ(m w:Nat)(W:Wd)(x0 x1 x12 x13 x14 x15 x16 x17 x18 x19 x20 x21 x22 x23 x24:Option V)(ts:List Tag)(hg:dQ ts)(s:St)(h:s.h.get w=some (.list (aB ts))):
 ∀k i,i+k=ts.length->hY (E (m+16)) (lw W x0 x1 x12 x13 x14 x15 x16 x17 x18 x19 x20 x21 x22 x23 x24) (.tup [(.loc 25),(.loc 26),(.c (.int 3))]) (.t [25,26]) [] w k i s=.ok (aB ((ts.drop i).map to3)) s:=by
 intro x9;induction x9 with
 |zero=>
  intro i hk;refine rwl (hU ..) (rwl (bK h ..) (rwl (aL6 (qZ hk) ..) ?_));have:Nat.beq (bC (aB ts)) i=true:=by rw[aD];unfold aB;rw[aLX,show ts.length=i by exact BD hk];exact Nat.beq_refl _
  rw[this];rfl
 |succ k aQ=>intro i hk;have hi:i<ts.length:=uY hk;refine rwl (fQ hi ..) (aLJ λaA=>?_);obtain⟨⟨b,x,r⟩,hq⟩:∃q,ts[i]=q:=⟨_,rfl⟩;have hr0:r=[]:=(hg (b,x,r) (by rw[<- hq];exact aMc hi)).1;subst hr0;have hn:nth (aB ts) i=some (.tup [.str b,x]):=fW (t:=(b,x,[])) (by rw[aLN hi,hq]);refine aA (rwl (hW ..) (rwl (bK h ..) (rwl (hn ..) (rwl (hq ..) ?_))));simp only[nG,fS,cJ,aT,aN,x_c,bH,RE.bind_ok,aI,aM,rY,dE,bY,aW,aK];refine rwl (show Nat.blt (bC [V.str b,x,.int 3]) lim=true from by rw[aD];exact hA (by simp) ..) ?_;simp only[aI,RE.bind_ok];refine rwl (aQ (i+1) (yX hk) ..) ?_;rfl
theorem s16{W:Wd}(ok:W.OK){o0:O}{st re:List Nat}{x0 x1 x12 x13 x14 x16 x18 x19 x20 x21 x22 x23 x24:Option V}(hg:dQ ts)(hl:ts.length<=8)(hst:st∈W.starts):
 ∃s',stp 403 c16 (lw W x0 x1 x12 x13 x14 (some (.str st)) x16 (some (.ref (W.kn+2))) x18 x19 x20 x21 x22 x23 x24) (aF (W.obs o0 [.list (aB (bO ts st W.us (.str re)))]))=.ok .next (lw W x0 x1 x12 x13 x14 (some (.str st)) x16 (some (.ref (W.kn+2))) x18 x19 x20 x21 x22 x23 x24) s'/\Gr (aF (W.obs o0 [.list (aB (bO ts st W.us (.str re)))])) s' (W.kn+3):=by
 have hk:=ok.kn;have hG:=tT (st:=st) (us:=W.us) (re:=re) hg;have hL:(bO ts st W.us (.str re)).length<100:=by
  unfold bO;have:=wX (ts:=ts) (st:=st) (us:=W.us);refine rwl (aMe ..) (rwl (aMe ..) (rwl (hJ ..) ?_));have r:(eA (dI ts) eJ).length=6:=by unfold eA;rw[aLX];rfl
  simp;exact aHb hl this r
 generalize hS:aF (W.obs o0 [.list (aB (bO ts st W.us (.str re)))])=S;have nS:S.n=W.kn+3:=by rw[<- hS,dP ok];rfl
 have gw:S.h.get (W.kn+2)=some (.list (aB (bO ts st W.us (.str re)))):=by rw[<- hS,cE ok _ _ (by simp)];exact dS ok _ _ 0
 have eS2:aV S (.list (aB ((bO ts st W.us (.str re)).map to3)))=aF (W.obs o0 [.list (aB (bO ts st W.us (.str re))),.list (aB ((bO ts st W.us (.str re)).map to3))]):=by rw[<- hS,oE];rfl
 have gt:(aV S (.list (aB ((bO ts st W.us (.str re)).map to3)))).h.get (W.kn+3)=some (.list (aB ((bO ts st W.us (.str re)).map to3))):=by rw[<- nS,gB _ _ (IH hk nS)]
 have key:∃s',aR (E 400) (aU 79) [.ref (W.kn+3),.ref 1,.ref 40] (aV S (.list (aB ((bO ts st W.us (.str re)).map to3))))=.ok (.str st) s'/\Gr (aV S (.list (aB ((bO ts st W.us (.str re)).map to3)))) s' (W.kn+4):=by
  refine rwl (IU _ _ _ gt ..) (rwl (eS2 ..) ?_);by_cases q:st=W.us;.subst q;obtain⟨e1,e2⟩:=(GC (us:=W.us) (re:=re) hg);refine rwl (e1 ..) (rwl (e2 ..) ?_);refine(?_:∃s',dK _ .none .none _=_/\_);exact rwl (FD ..) (ok.fen _ _ _ _ _)
  .refine e02 (GB (re:=re) hg q) λe1 e2=>?_;rw[e1,e2];refine(?_:∃s',dK _ (bP st (.int 3)) (suV [49] (.int 3)) _=_/\_);exact rwl (NU ..) (ok.st st hst _ _ _ _ _ _)
 refine e12 key λs' e g=>?_;generalize bO ts st W.us (.str re)=L at hS hG hL gw e g;refine⟨s',?_,?_⟩;.unfold c16;simp only[pD,eL,zZ,sD,eP,aT,aN,aW,aK,aM,x_c,RE.bind_ok,x_b,nH,aL,mL,gE];refine rwl (show cT S .isn (.ref (W.kn+2)) .none=some true from rfl ..) ?_;simp only[cX,RE.bind_ok,yM,EC,eP,fJ,cJ,rZ,aT,aN,aW,aK,aM,bH];simp only[sA,sB,nI,sC,aK,aW,aI];rw[HH gw,show(aB L).length=L.length from by unfold aB;simp,aIQ 383 (W.kn+2) W _ _ _ _ _ _ _ _ _ _ _ _ _ _ _ L hG S gw _ 0 (OG),List.drop_zero];simp only[lN,RE.bind_ok];refine rwl (fI _ (IH hk nS) (by unfold aB;rw[aLX,aLX];exact ZM hL) ..) ?_;simp only[RE.bind_ok];refine rwl (nS ..) (rwl (e ..) ?_);simp only[RE.bind_ok];refine rwl (jF ..) (rwl (decide_eq_true rfl ..) ?_);rfl
 .have:=g.n;refine⟨by rw[bN]at this;exact nT this,λi h1 h2=>?_⟩;exact rwl (g.h i (by rw[bN];exact IG h1) (aHi nS h1) ..) (rwl (aY _ (IH hk nS) ..) (rwl (if_neg (qU h1) ..) rfl))
theorem MU(s:St)(a b:Int):cT s .lt (.int a) (.int b)=some (decide (a<b)):=((rwl (pO ..) rfl):some (ltB a b)=_)
theorem LD(us lone:List Nat)(z:Bool)(W:Wd)(h1:W.us=us)(h2:W.lone=lone)(h3:W.z=z):knL us lone z=W.pairs.map λp=>V.tup [.str p.1,.str p.2]:=by subst h1 h2 h3;unfold Wd.pairs;cases W.z<;>rfl
theorem KP(W:Wd):W.pairs.length=10:=rfl
noncomputable abbrev evT:Tag:=([69,118,101,110,116],.str [70,69,78],[.int 4])
section
variable {W:Wd}{s:St}{a0 a1 a2 a3 a4 a5:Int}{x0 x12 x13 x14 x15 x16 x17 x18 x19 x20 x21 x22 x23 x24:Option V}
theorem s17(h0:s.h.get 0=some (cL a0 a1 a2 a3 a4 a5)):stp 20 c17 (lw W x0 (some (.ref 0)) x12 x13 x14 x15 x16 x17 x18 x19 x20 x21 x22 x23 x24) s=.ok .next (lw W x0 (some (.ref 0)) x12 x13 x14 x15 x16 x17 x18 x19 (some (.int (Int.fmod a1 11))) x21 x22 x23 x24) s:=by unfold c17;simp only[eQ,jV,jU,aT,aN,aW,aK,aM,x_c,RE.bind_ok,cR,dE,bY,cP];refine rwl (show item s (.ref 0) (.int 1)=some (.int a1) from qK h0 1 _ rfl ..) ?_;simp only[bG,RE.bind_ok];refine rwl (iH _ _ _ (by decide) ..) ?_;simp only[aL]
theorem s18(h0:s.h.get 0=some (cL a0 a1 a2 a3 a4 a5))(hn:s.n<900)(h0n:0<s.n):
 ∃su o,(su=V.none\/∃v∈[[49],[48],[50],[]],su=.str v)/\stp 20 c18 (lw W x0 (some (.ref 0)) x12 x13 x14 x15 x16 x17 x18 x19 x20 x21 x22 x23 x24) s=.ok .next (lw W x0 (some (.ref 0)) x12 x13 x14 x15 x16 x17 x18 x19 x20 (some su) x22 x23 x24) (aV s o):=by
 refine aLJ λaA=>?_;have ha:(aV s (.list [.none,.str [49],.str [48],.str [50],.str []])).h.get s.n=some (.list [.none,.str [49],.str [48],.str [50],.str []]):=gB _ _ (cS hn);refine e12 (iZ a2 5 (oo7)) λk h1 h2=>?_;refine aA ?_;have hi:∃su,(su=V.none\/∃v∈[[49],[48],[50],[]],su=.str v)/\item (aV s (.list [.none,.str [49],.str [48],.str [50],.str []])) (.ref s.n) (.int (Int.fmod a2 5))=some su:=by
  refine rwl (show Int.fmod a2 5=Int.ofNat k from h2 ..) (rwl (rS ha ..) ?_);have:k=0\/k=1\/k=2\/k=3\/k=4:=by omega
  rcases this with rfl|rfl|rfl|rfl|rfl;.exact⟨_,.inl rfl,rfl⟩
  .exact⟨_,.inr ⟨[49],by simp,rfl⟩,rfl⟩
  .exact⟨_,.inr ⟨[48],by simp,rfl⟩,rfl⟩
  .exact⟨_,.inr ⟨[50],by simp,rfl⟩,rfl⟩
  .exact⟨_,.inr ⟨[],by simp,rfl⟩,rfl⟩
 refine e12 hi λsu h3 h4=>?_;refine SV su (.list [.none,.str [49],.str [48],.str [50],.str []]) h3 ?_;unfold c18;simp only[eQ,jU,HE,cJ,x_c,bH,RE.bind_ok,jV,aT,aN,aW,aK,aM,cR,dE,bY,cP];refine rwl (fI _ (cS hn) (by simp) ..) ?_;simp only[RE.bind_ok];refine rwl (show item (aV s (.list [.none,.str [49],.str [48],.str [50],.str []])) (.ref 0) (.int 2)=some (.int a2) from qK (by rw[aY _ (cS hn),if_neg (aE5 h0n)];exact h0) 2 _ rfl ..) ?_;simp only[bG,RE.bind_ok];refine rwl (iH _ _ _ (by decide) ..) ?_;simp only[RE.bind_ok];refine rwl (h4 ..) ?_;simp only[bG,aL]
theorem s19(hn:s.n<900):stp 20 c19 (lw W x0 (some (.ref 0)) x12 x13 x14 x15 x16 x17 x18 x19 x20 x21 x22 x23 x24) s=.ok .next (lw W x0 (some (.ref 0)) x12 x13 x14 x15 x16 x17 x18 x19 x20 x21 (some (.ref s.n)) x23 x24) (aV s (.list (aB [evT]))):=by unfold c19;simp only[eQ,HE,cJ,fS,x_c,bH,RE.bind_ok,cR,dE,bY,cP];refine rwl (show Nat.blt (bC [V.str [69,118,101,110,116],V.str [70,69,78],V.int 4]) lim=true from by rw[aD];exact hA (by simp) ..) ?_;simp only[aI,RE.bind_ok];refine rwl (fI _ (cS hn) (by simp) ..) ?_;simp only[aL];rfl
theorem s20:stp 20 c20 (lw W x0 (some (.ref 0)) x12 x13 x14 x15 x16 x17 x18 x19 x20 x21 x22 x23 x24) s=.ok .next (lw W x0 (some (.ref 0)) x12 x13 x14 x15 x16 x17 x18 x19 x20 x21 x22 (some (.str W.us)) x24) s:=by unfold c20;simp only[eQ,aT,aN,aW,aK,aM,cR,dE,bY,cP,aL]
theorem aJC(f:Int)(hf:¬f<10):stp 20 c21 (lw W x0 (some (.ref 0)) x12 x13 x14 x15 x16 x17 x18 x19 (some (.int f)) x21 x22 x23 x24) s=.ok .next (lw W x0 (some (.ref 0)) x12 x13 x14 x15 x16 x17 x18 x19 (some (.int f)) x21 x22 x23 x24) s:=by unfold c21;simp only[pD,eL,eP,aT,aN,aW,aK,aM,x_c,RE.bind_ok,x_b,mC,gD,cJ,fS,jU,jV,bH,gE];refine rwl (MU ..) (rwl (decide_eq_false hf ..) ?_);simp only[cX,RE.bind_ok,eX,bG,aL,cK]
theorem aJD(h0:s.h.get 0=some (cL a0 a1 a2 a3 a4 a5))(hk:s.h.get W.kn=some (.list (knL W.us W.lone W.z)))(k:Nat)(hk10:k<10){td:Nat}(ht:s.h.get td=some (.list (aB ts)))(hl:ts.length<100)(h0t:td≠0)(hkt:td≠W.kn)(htn:td<900):
 ∃p∈W.pairs,stp 20 c21 (lw W x0 (some (.ref 0)) x12 x13 x14 x15 x16 x17 x18 x19 (some (.int (.ofNat k))) x21 (some (.ref td)) x23 x24) s=.ok .next (lw W x0 (some (.ref 0)) x12 x13 x14 x15 x16 x17 x18 x19 (some (.int (.ofNat k))) x21 (some (.ref td)) (some (UC p.2 (.int (Int.fmod a3 1000)))) x24) (bE s td (.list (aB (ts++[(feN,.str p.1,[.int (Int.fmod a3 1000)])])))):=by
 have hp:k<W.pairs.length:=by rw[KP];exact hk10
 refine⟨W.pairs[k],aMc hp,?_⟩;generalize hpp:W.pairs[k]=p;have ik:∀s':St,s'.h.get W.kn=some (.list (knL W.us W.lone W.z))->item s' (.ref W.kn) (.int (.ofNat k))=some (.tup [.str p.1,.str p.2]):=λs' h=>by rw[rS h,LD W.us W.lone W.z W rfl rfl rfl,aL8,aLN hp,hpp];rfl
 generalize hx:Int.fmod a3 1000=x;have ap:meth .append (.ref td) [.tup [.str feN,.str p.1,.int x]] s=.ok .none (bE s td (.list (aB (ts++[(feN,.str p.1,[.int x])])))):=by refine rwl (kE ..) (rwl (bK ht ..) (rwl (pA _ _ (by rw[cI];unfold aB;simp;exact aEP hl) ..) ?_));rw[cI];unfold aB;rw[aMb];rfl
 generalize hs1:bE s td (.list (aB (ts++[(feN,.str p.1,[.int x])])))=s1 at ap|-;have g0:s1.h.get 0=some (cL a0 a1 a2 a3 a4 a5):=by rw[<- hs1,aS _ _ (cS htn),if_neg (aMd h0t)];exact h0
 have gk:s1.h.get W.kn=some (.list (knL W.us W.lone W.z)):=by rw[<- hs1,aS _ _ (cS htn),if_neg (aMd hkt)];exact hk
 unfold c21;simp only[pD,eL,eP,aT,aN,aW,aK,aM,x_c,RE.bind_ok,x_b,mC,gD,cJ,fS,jU,jV,bH,gE];refine rwl (MU ..) (rwl (decide_eq_true (show Int.ofNat k<10 from by have:Int.ofNat k=(k:Int):=rfl;exact aKI hk10 this) ..) ?_);simp only[cX,RE.bind_ok,eX,bG,aL,aI];refine rwl (ik s hk ..) (rwl (jG _ ht ..) ?_);simp only[bG,RE.bind_ok,aI];refine rwl (show item s (.tup [.str p.1,.str p.2]) (.int 0)=some (.str p.1) from rfl ..) ?_;simp only[bG,RE.bind_ok];refine rwl (show item s (.ref 0) (.int 3)=some (.int a3) from qK h0 3 _ rfl ..) ?_;simp only[bG,RE.bind_ok];refine rwl (iH _ _ _ (by decide) ..) (rwl (hx ..) ?_);simp only[RE.bind_ok];refine rwl (show Nat.blt (bC [V.str [70,69,78],.str p.1,.int x]) lim=true from by rw[aD];exact hA (by simp) ..) ?_;simp only[aI,RE.bind_ok];refine rwl (ap ..) ?_;simp only[aL,dM,aI,aZ,x_b,eQ,YL,eL,eP,jU,aT,aN,aW,aK,aM,RE.bind_ok,x_c,jV,cR,dE,bY,cP];refine rwl (ik s1 gk ..) ?_;simp only[bG,RE.bind_ok];refine rwl (show item s1 (.tup [.str p.1,.str p.2]) (.int 1)=some (.str p.2) from rfl ..) ?_;simp only[bG,RE.bind_ok];refine rwl (jF ..) ?_;simp only[cX,RE.bind_ok,eX,bG];unfold UC;by_cases q:p.2=[];.refine rwl (decide_eq_true q ..) (rwl (q ..) ?_);simp only[Bool.not_true];simp only[cK];refine rwl (show item s1 (.ref 0) (.int 3)=some (.int a3) from qK g0 3 _ rfl ..) ?_;simp only[bG,RE.bind_ok];rw[iH _ _ _ (by decide),hx];simp only[aL,aZ,gE];rfl
 .refine rwl (decide_eq_false q ..) ?_;simp only[Bool.not_false];simp only[aI];rw[show gH p.2=false from by cases h:p.2 with
   |nil=>exact absurd h q
   |cons a l=>rfl]
  rw[ik s1 gk];simp only[bG,RE.bind_ok,cK];rw[show item s1 (.tup [.str p.1,.str p.2]) (.int 1)=some (.str p.2) from rfl];simp only[bG,aL,aZ,gE]
noncomputable def HO(f:Int)(v:List Nat):Bool:=!decide (v=if f<10 then [49] else [48])
theorem aJB:stp 20 c22 (lw W x0 (some (.ref 0)) x12 x13 x14 x15 x16 x17 x18 x19 x20 (some .none) x22 x23 x24) s=.ok .next (lw W x0 (some (.ref 0)) x12 x13 x14 x15 x16 x17 x18 x19 x20 (some .none) x22 x23 x24) s:=by unfold c22;simp only[pD,eL,eP,aT,aN,aW,aK,aM,x_c,RE.bind_ok,x_b,eQ,jV,jU,cR,dE,bY,cP,gE];refine rwl (show cT s .isn .none .none=some false from rfl ..) ?_;simp only[cX,RE.bind_ok,eX,bG,aL,cK]
theorem s22(h0:s.h.get 0=some (cL a0 a1 a2 a3 a4 a5))(f:Int)(v:List Nat)(ans:V){td:Nat}(ht:s.h.get td=some (.list (aB ts)))(hl:ts.length<100)(h0t:td≠0)(htn:td<900):
 ∃i pl w24,(i=1\/i=2)/\stp 20 c22 (lw W x0 (some (.ref 0)) x12 x13 x14 x15 x16 x17 x18 x19 (some (.int f)) (some (.str v)) (some (.ref td)) (some ans) x24) s=.ok .next (lw W x0 (some (.ref 0)) x12 x13 x14 x15 x16 x17 x18 x19 (some (.int f)) (some (.str v)) (some (.ref td)) (some (if HO f v then .int pl else ans)) w24) (bE s td (.list (aB (ts.take i++(suN,.str v,[.int pl])::ts.drop i)))):=by
 refine e12 (iZ a3 2 (oo5)) λk h1 h2=>?_;generalize hpl:(1000:Int)+Int.fmod (Int.fdiv a3 1000) 1000=pl;refine aIH (k+1) pl (some (.int pl)) (aEF h1) ?_;have ins:meth .insert (.ref td) [.int (Int.fmod a3 2+1),.tup [.str suN,.str v,.int pl]] s=.ok .none (bE s td (.list (aB (ts.take (k+1)++(suN,.str v,[.int pl])::ts.drop (k+1))))):=by rw[show Int.fmod a3 2+1=Int.ofNat (k+1) from by rw[show Int.fmod a3 2=Int.ofNat k from h2];rfl];refine((rwl (mZ (aEG h1) ..) (rwl (aI ..) (rwl (bK ht ..) (rwl (CK ..) (rwl (pA _ _ (by unfold aB;simp;omega) ..) ?_))))):sel (Nat.blt (k+1) 1000) (aP s td RE.stuck λl=>iR s td (tO (.tup [.str suN,.str v,.int pl]) l (k+1))) RE.stuck=_);unfold aB;rw[aMb,List.map_cons,List.map_take,List.map_drop];rfl
 generalize bE s td (.list (aB (ts.take (k+1)++(suN,.str v,[.int pl])::ts.drop (k+1))))=s1 at ins|-;unfold c22;simp only[pD,eL,eP,aT,aN,aW,aK,aM,x_c,RE.bind_ok,x_b,eQ,jV,jU,cR,dE,bY,cP,gE];refine rwl (show cT s .isn (.str v) .none=some true from rfl ..) ?_;simp only[cX,RE.bind_ok,eX,bG,aL,aI];refine rwl (show item s (.ref 0) (.int 3)=some (.int a3) from qK h0 3 _ rfl ..) ?_;simp only[bG,RE.bind_ok];refine rwl (MV _ _ _ (by decide) (by decide) ..) ?_;simp only[RE.bind_ok];refine rwl (iH _ _ _ (by decide) ..) ?_;simp only[RE.bind_ok];refine rwl (MW ..) ?_;simp only[aL,aZ,x_b,mC,gD,aT,aN,aW,aK,aM,cJ,jV,jU,x_c,RE.bind_ok,fS,bH];refine rwl (hpl ..) (rwl (jG _ ht ..) ?_);simp only[aI];rw[show item s (.ref 0) (.int 3)=some (.int a3) from qK h0 3 _ rfl];simp only[bG,RE.bind_ok];rw[iH _ _ _ (by decide)];simp only[RE.bind_ok];rw[MW];simp only[RE.bind_ok];refine rwl (show Nat.blt (bC [V.str [83,101,116,85,112],.str v,.int pl]) lim=true from by rw[aD];exact hA (by simp) ..) ?_;simp only[aI,RE.bind_ok];refine rwl (ins ..) ?_;simp only[aL,dM,aI,aZ,x_b,pD,eL,eP,aT,aN,aW,aK,aM,YL,x_c,RE.bind_ok,eQ,cR,dE,bY,cP,gE];refine rwl (MU ..) ?_;simp only[cX,RE.bind_ok,eX,bG];unfold HO;by_cases q:f<10;.refine rwl (decide_eq_true q ..) (rwl (if_pos q ..) ?_);simp only[aI,RE.bind_ok];refine rwl (jF ..) ?_;simp only[cX,RE.bind_ok,eX,bG,aL];cases (decide (v=[49]))<;>rfl
 .refine rwl (decide_eq_false q ..) (rwl (if_neg q ..) ?_);simp only[cK,RE.bind_ok];rw[jF];simp only[cX,RE.bind_ok,eX,bG,aL];cases (decide (v=[48]))<;>rfl
theorem s23{x1:Option V}{t:Nat}{v:V}{s':St}(h:aR (E 400) (aU 79) [.ref t,.ref 1,.ref 40] s=.ok v s')(hv:(∃x,v=.str x)\/∃x,v=.int x):stp 402 c23 (lw W x0 x1 x12 x13 x14 x15 x16 x17 x18 x19 x20 x21 (some (.ref t)) (some v) x24) s=.ok (.ret (.bool true)) (lw W x0 x1 x12 x13 x14 x15 x16 x17 x18 x19 x20 x21 (some (.ref t)) (some v) x24) s':=by
 unfold c23;simp only[nH,eP,fJ,cJ,aT,aN,aW,aK,aM,bH,RE.bind_ok];refine rwl (h ..) ?_;simp only[RE.bind_ok];rw[show cT s' .eq v v=some true from by
  rcases hv with⟨x,rfl⟩|⟨x,rfl⟩;.exact rwl (HG ..) (rwl (decide_eq_true rfl ..) rfl)
  .refine(?_:some (eqB x x)=_);rw[eO,decide_eq_true rfl]]
 simp only[cX,aL]
end
def SI(v:V):Prop:=(∃x,v=.str x)\/∃x,v=.int x
theorem SI.vn{m f}{v:V}(h:SI v):VN m f v v:=by
 rcases h with⟨x,rfl⟩|⟨x,rfl⟩;.exact .str x
 .exact .int x
theorem JW(c:List Nat)(x:Int):SI (UC c (.int x)):=by
 cases c with
 |nil=>exact .inr ⟨x,rfl⟩
 |cons a c=>exact .inl ⟨_,rfl⟩
def NR(q:Tag):Bool:=mG 0 q.v
theorem sV(h:∀q∈ts,NR q=true):fV 0 (.list (aB ts))=true:=by refine(?_:gR (mG 0) (aB ts)=true);rw[lH,List.all_eq_true];intro v hv;unfold aB at hv;exact e12 (List.mem_map.mp hv) λq hq bF=>rwr bF (h q hq)
structure kC(W:Wd)(o0 o1:O)(s:St):Prop where
 low:∀i,i<W.kn+2->s.h.get i=(o0::W.mid)[i]?
 one:s.h.get (W.kn+2)=some o1
section
variable {W:Wd}{R:List CS->Loc->St->Prop}{o0 o1:O}{s:St}
theorem kC.at0(b:kC W o0 o1 s):s.h.get 0=some o0:=b.low 0 (qT)
theorem kC.gr(b:kC W o0 o1 s){s':St}{o:Nat}(g:Gr s s' o)(hn:W.kn+2<s.n)(ho:W.kn+2<o):kC W o0 o1 s':=⟨λi hi=>by rw[g.h i (aJ4 hn hi) (aJ3 ho hi)];exact b.low i hi,by rw[g.h _ (aGz hn) (aGy ho)];exact b.one⟩
theorem JV(ok:W.OK)(os:List O)(h:os.length<90):kC W o0 o1 (aF (W.obs o0 (o1::os))):=⟨λi hi=>by rw[cE ok _ _ (by simp;exact ZH h),jO ok _ _ hi],by rw[cE ok _ _ (by simp;exact ZH h)];exact dS ok _ _ 0⟩
theorem aBi(H:mK R)(ok:W.OK){x0 x1 x12 x13 x14 x15 x16 x17 x18 x19 x20 x21 x24:Option V}{td:List Tag}{ans:V}(b:kC W o0 o1 s)(ht:s.h.get (W.kn+4)=some (.list (aB td)))(p0:fV 0 o0=true)(p1:fV 0 o1=true)(pt:∀q∈td,NR q=true)(si:SI ans)(call:∃s',dK (.ref (W.kn+3)) ((bW feN td).elim .none Tag.v) ((bW suN td).elim .none Tag.v) (aF (W.obs o0 [o1,.list (aB td)]))=.ok ans s'):
 R [c23] (lw W x0 x1 x12 x13 x14 x15 x16 x17 x18 x19 x20 x21 (some (.ref (W.kn+4))) (some ans) x24) s:=by
 have hk:=ok.kn;obtain⟨s',e⟩:=call;have g:(aF (W.obs o0 [o1,.list (aB td)])).h.get (W.kn+3)=some (.list (aB td)):=by rw[cE ok _ _ (by simp)];exact dS ok _ _ 1
 replace e:=(IU _ _ _ g).symm▸e;have hm:(aF (W.obs o0 [o1,.list (aB td)])).n=W.kn+2+2:=dP ok _ _;have rn:ReN (fx (W.kn+2) [W.kn+2,W.kn+4]) (aF (W.obs o0 [o1,.list (aB td)])) s:=by
  refine yU ok o0 [o1,.list (aB td)] [W.kn+2,W.kn+4] b.low rfl (by simp) (by simp) (λk j hj=>?_) p0 (λo ho=>?_) (by simp)
  .match k,hj with
   |0,hj=>cases hj;exact b.one
   |1,hj=>cases hj;exact ht
  .rcases List.mem_cons.mp ho with rfl|ho;.exact p1
   .rw[List.mem_singleton.mp ho];exact sV pt
 refine H.ren rn (l₂:=lw W none none none none none none none none none none none none (some (.ref (W.kn+3))) (some ans) none) ?_ (H.ret (s23 e si));refine rwl (hm ..) ?_;exact(mS (AZ) (sY hk) (.none _) (.none _) (.none _) (.none _) (.none _) (.none _) (.none _) (.none _) (.none _) (.none _) (.none _) (.none _) (.some (.ref' (ZQ) (by
  unfold fx;rw[if_neg (aEe),show W.kn+3-(W.kn+2)=1 by exact ZR];rfl))) (.some si.vn) (.none _)).at
variable {a0 a1 a2 a3 a4 a5:Int}
theorem lS:fV 0 (cL a0 a1 a2 a3 a4 a5)=true:=rfl
theorem aBj(H:mK R)(ok:W.OK)(b:kC W (cL a0 a1 a2 a3 a4 a5) o1 s){f:Int}{td:List Tag}{ans su:V}(ht:s.h.get (W.kn+4)=some (.list (aB td)))(p1:fV 0 o1=true)(hT:(f<10/\∃p∈W.pairs,∃x:Int,td=[evT,(feN,.str p.1,[.int x])]/\ans=UC p.2 (.int x))\/(¬f<10/\td=[evT]/\ans=.str W.us))(hsu:su=.none\/∃v∈[[49],[48],[50],[]],su=.str v):
 R [c22,c23] (lw W none (some (.ref 0)) none none none none none none none none (some (.int f)) (some su) (some (.ref (W.kn+4))) (some ans) none) s:=by
 have hk:=ok.kn;rcases hsu with rfl|⟨v,hv,rfl⟩
 .refine H.step aJB (aBi H ok b ht lS p1 ?_ ?_ ?_)
  .rcases hT with⟨_,p,hp,x,rfl,rfl⟩|⟨_,rfl,rfl⟩
   .intro q hq;rcases List.mem_cons.mp hq with rfl|hq;.rfl
    .rw[List.mem_singleton.mp hq];rfl
   .intro q hq;rw[List.mem_singleton.mp hq];rfl
  .rcases hT with⟨_,p,hp,x,rfl,rfl⟩|⟨_,rfl,rfl⟩;.exact JW _ _
   .exact .inl ⟨_,rfl⟩
  .rcases hT with⟨_,p,hp,x,rfl,rfl⟩|⟨_,rfl,rfl⟩;.refine(?_:∃s',dK _ (bP p.1 (.int x)) .none _=_);refine rwl (FD ..) ?_;obtain⟨s',e,_⟩:=ok.told p hp _ o1 _ _ .none (.int x);exact⟨s',e⟩
   .refine(?_:∃s',dK _ .none .none _=_);rw[FD];refine aLJ λaA=>?_;obtain⟨s',e,_⟩:=ok.fen _ o1 _ _ .none;exact aA ⟨s',e⟩
 .have htl:td.length<100:=by rcases hT with⟨_,p,hp,x,rfl,rfl⟩|⟨_,rfl,rfl⟩<;>simp
  refine e32 (s22 (W:=W) (x0:=none) (x12:=none) (x13:=none) (x14:=none) (x15:=none) (x16:=none) (x17:=none) (x18:=none) (x19:=none) (x24:=none) b.at0 f v ans ht htl (ZP) (ZW hk)) λi pl w24 hi e=>?_;refine H.step e (aBi (o0:=cL a0 a1 a2 a3 a4 a5) (o1:=o1) H ok ⟨λi hi=>?_,?_⟩ (by rw[aS _ _ (xC hk),if_pos rfl]) lS p1 ?_ ?_ ?_);.rw[aS _ _ (xC hk),if_neg (aAC hi)];exact b.low i hi
  .rw[aS _ _ (xC hk),if_neg (ZC)];exact b.one
  .intro q hq;have:q∈td\/q=(suN,.str v,[.int pl]):=by
    rcases List.mem_append.mp hq with h|h;.exact .inl (List.mem_of_mem_take h)
    .rcases List.mem_cons.mp h with h|h;.exact .inr h
     .exact .inl (List.mem_of_mem_drop h)
   rcases this with h|rfl
   .rcases hT with⟨_,p,hp,x,rfl,rfl⟩|⟨_,rfl,rfl⟩
    .rcases List.mem_cons.mp h with rfl|h;.rfl
     .rw[List.mem_singleton.mp h];rfl
    .rw[List.mem_singleton.mp h];rfl
   .rfl
  .split;.exact .inr ⟨_,rfl⟩
   .rcases hT with⟨_,p,hp,x,rfl,rfl⟩|⟨_,rfl,rfl⟩;.exact JW _ _
    .exact .inl ⟨_,rfl⟩
  .rcases hT with⟨hf,p,hp,x,rfl,rfl⟩|⟨hf,rfl,rfl⟩
   .have e1:bW feN ([evT,(feN,V.str p.1,[V.int x])].take i++(suN,.str v,[.int pl])::[evT,(feN,V.str p.1,[V.int x])].drop i)=some (feN,.str p.1,[.int x]):=by refine aLJ λaA=>aA ?_;rcases hi with rfl|rfl<;>rfl
    have e2:bW suN ([evT,(feN,V.str p.1,[V.int x])].take i++(suN,.str v,[.int pl])::[evT,(feN,V.str p.1,[V.int x])].drop i)=some (suN,.str v,[.int pl]):=by rcases hi with rfl|rfl<;>rfl
    refine rwl (e1 ..) (rwl (e2 ..) ?_);refine(?_:∃s',dK _ (bP p.1 (.int x)) (suV v (.int pl)) _=_);unfold HO;refine rwl (if_pos hf ..) ?_;by_cases q:v=[49];.subst q;refine rwl (NU ..) ?_;obtain⟨s',e,_⟩:=ok.told p hp _ o1 _ _ _ (.int x);exact⟨s',e⟩
    .refine rwl (decide_eq_false q ..) ?_;obtain⟨s',e,_⟩:=ok.mis1 v (by simp at hv|-;rcases hv with h|h|h|h;exact absurd h q;exact .inl h;exact .inr (.inl h);exact .inr (.inr h)) (cL a0 a1 a2 a3 a4 a5) o1 _ (.ref (W.kn+3)) (.int x) (.int pl) p.1;exact⟨s',e⟩
   .have e1:bW feN ([evT].take i++(suN,.str v,[.int pl])::[evT].drop i)=none:=by refine aLJ λaA=>aA ?_;rcases hi with rfl|rfl<;>rfl
    have e2:bW suN ([evT].take i++(suN,.str v,[.int pl])::[evT].drop i)=some (suN,.str v,[.int pl]):=by rcases hi with rfl|rfl<;>rfl
    rw[e1,e2];refine(?_:∃s',dK _ .none (suV v (.int pl)) _=_);unfold HO;refine rwl (if_neg hf ..) ?_;by_cases q:v=[48];.subst q;refine rwl (aCg ..) ?_;refine aLJ λaA=>?_;obtain⟨s',e,_⟩:=ok.fen _ o1 _ _ _;exact aA ⟨s',e⟩
    .rw[decide_eq_false q];refine aLJ λaA=>?_;obtain⟨s',e,_⟩:=ok.mis0 v (by simp at hv|-;rcases hv with h|h|h|h;exact .inl h;exact absurd h q;exact .inr (.inl h);exact .inr (.inr h)) (cL a0 a1 a2 a3 a4 a5) o1 _ (.ref (W.kn+3)) (.int pl);exact aA ⟨s',e⟩
theorem aIf(H:mK R)(ok:W.OK)(p1:fV 0 o1=true):R [c17,c18,c19,c20,c21,c22,c23] (lw W none (some (.ref 0)) none none none none none none none none none none none none none) (aF (W.obs (cL a0 a1 a2 a3 a4 a5) [o1])):=by
 have hk:=ok.kn;have b:kC W (cL a0 a1 a2 a3 a4 a5) o1 (aF (W.obs (cL a0 a1 a2 a3 a4 a5) [o1])):=JV ok [] (by simp);have n0:(aF (W.obs (cL a0 a1 a2 a3 a4 a5) [o1])).n=W.kn+3:=dP ok _ _;generalize aF (W.obs (cL a0 a1 a2 a3 a4 a5) [o1])=s0 at b n0;refine H.step (s17 b.at0) (aLJ λaA=>?_);obtain⟨su,o,hsu,e⟩:=s18 (W:=W) (x0:=none) (x12:=none) (x13:=none) (x14:=none) (x15:=none) (x16:=none) (x17:=none) (x18:=none) (x19:=none) (x20:=some (.int (Int.fmod a1 11))) (x22:=none) (x23:=none) (x24:=none) b.at0 (aGS hk n0) (aFE n0);refine aA (H.step e ?_);have b1:kC W (cL a0 a1 a2 a3 a4 a5) o1 (aV s0 o):=b.gr (fZ s0 o s0.n (IH hk n0)) (aAo n0) (aAo n0);have n1:(aV s0 o).n=W.kn+4:=by rw[bN,n0]
 generalize aV s0 o=s1 at b1 n1;refine H.step (s19 (aGR hk n1)) ?_;have b2:kC W (cL a0 a1 a2 a3 a4 a5) o1 (aV s1 (.list (aB [evT]))):=b1.gr (fZ s1 _ s1.n (aAN hk n1)) (aAn n1) (aAn n1);have n2:(aV s1 (.list (aB [evT]))).n=W.kn+5:=by rw[bN,n1]
 have t2:(aV s1 (.list (aB [evT]))).h.get (W.kn+4)=some (.list (aB [evT])):=by rw[<- n1,gB _ _ (aAN hk n1)]
 generalize aV s1 (.list (aB [evT]))=s2 at b2 n2 t2;refine rwl (n1 ..) (H.step s20 (aLJ λaA=>e12 (iZ a1 11 (oo3)) λk h1 h2=>?_));have kk:s2.h.get W.kn=some (.list (knL W.us W.lone W.z)):=by rw[b2.low _ (OC),show W.kn=W.kn-1+1 by exact aEW hk,List.getElem?_cons_succ];exact ok.at1
 by_cases q:k<10
 .refine e12 (aJD (W:=W) (x0:=none) (x12:=none) (x13:=none) (x14:=none) (x15:=none) (x16:=none) (x17:=none) (x18:=none) (x19:=none) (x21:=some su) (x23:=some (.str W.us)) (x24:=none) b2.at0 kk k q t2 (by simp) (ZP) (aER) (ZW hk)) λp hp e=>aA (rwl (show Int.fmod a1 11=Int.ofNat k from h2 ..) (H.step e (aBj (o1:=o1) (a0:=a0) (a1:=a1) (a2:=a2) (a3:=a3) (a4:=a4) (a5:=a5) H ok ⟨λi hi=>?_,?_⟩ (by rw[aS _ _ (xC hk),if_pos rfl];rfl) p1 (.inl ⟨?_,p,hp,_,rfl,rfl⟩) hsu)));.rw[aS _ _ (xC hk),if_neg (aAC hi)];exact b2.low i hi
  .rw[aS _ _ (xC hk),if_neg (ZC)];exact b2.one
  .have:Int.ofNat k=(k:Int):=rfl;omega
 .have hf:¬Int.fmod a1 11<10:=by have:Int.ofNat k=(k:Int):=rfl;have:Int.fmod a1 11=Int.ofNat k:=h2;omega
  exact aA (H.step (aJC _ hf) (aBj H ok b2 t2 p1 (.inr ⟨hf,rfl,rfl⟩) hsu))
end
theorem jR(h:dQ ts):fV 0 (.list (aB ts))=true:=sV λq hq=>by obtain⟨a,x,r⟩:=q;obtain⟨h1,y,h2⟩:=h _ hq;cases h1;cases h2;rfl
theorem mV(xs:List Int):fV 0 (.list (xs.map V.int))=true:=by refine(?_:gR (mG 0) (xs.map V.int)=true);rw[lH,List.all_eq_true];intro v hv;refine e12 (List.mem_map.mp hv) λx Z bF=>rwr bF ?_;rfl
section
variable {W:Wd}{R:List CS->Loc->St->Prop}{a0 a1 a2 a3 a4 a5:Int}{s:St}
theorem VQ(ok:W.OK){o1 o2:O}{j:Nat}(low:∀i,i<W.kn+2->s.h.get i=(cL a0 a1 a2 a3 a4 a5::W.mid)[i]?)(h1:s.h.get (W.kn+2)=some o1)(h2:s.h.get j=some o2)(hj:W.kn+3<=j)(p1:fV 0 o1=true)(p2:fV 0 o2=true):
 ReN (fx (W.kn+2) [W.kn+2,j]) (aF (W.obs (cL a0 a1 a2 a3 a4 a5) [o1,o2])) s:=by
 refine yU ok _ [o1,o2] [W.kn+2,j] low rfl (by simp;exact aGs hj) (λk hk=>?_) (λk j' hj'=>?_) lS (λo ho=>?_) (by simp)
 .rcases List.mem_cons.mp hk with rfl|hk;.exact aLO _
  .rw[List.mem_singleton.mp hk];exact aGt hj
 .match k,hj' with
  |0,e=>cases e;exact h1
  |1,e=>cases e;exact h2
 .rcases List.mem_cons.mp ho with rfl|ho;.exact p1
  .rw[List.mem_singleton.mp ho];exact p2
theorem aCc(ok:W.OK){o1:O}{j:Nat}(low:∀i,i<W.kn+2->s.h.get i=(cL a0 a1 a2 a3 a4 a5::W.mid)[i]?)(h1:s.h.get j=some o1)(hj:W.kn+2<=j)(p1:fV 0 o1=true):
 ReN (fx (W.kn+2) [j]) (aF (W.obs (cL a0 a1 a2 a3 a4 a5) [o1])) s:=by
 refine yU ok _ [o1] [j] low rfl (by simp) (λk hk=>?_) (λk j' hj'=>?_) lS (λo ho=>?_) (by simp);.rw[List.mem_singleton.mp hk];exact hj
 .match k,hj' with
  |0,e=>cases e;exact h1
 .rw[List.mem_singleton.mp ho];exact p1
theorem SN.lo{m k:Nat}{js:List Nat}{i:Nat}(hi:i<k)(hm:i<m):SN m (fx k js) (Option.some (V.ref i)) (Option.some (V.ref i)):=SN.some (VN.ref' hm (by unfold fx;rw[if_pos hi]))
theorem SN.at{m k:Nat}{js:List Nat}{i j:Nat}(hi:k<=i)(hm:i<m)(e:js[i-k]? = Option.some j):SN m (fx k js) (Option.some (V.ref i)) (Option.some (V.ref j)):=SN.some (VN.ref' hm (by unfold fx;rw[if_neg (xD hi),e];rfl))
theorem aIM(H:mK R)(ok:W.OK){o1:O}{j:Nat}{x0 x12 x13 x14 x15 x16 x17 x18 x19 x20 x21 x22 x23 x24:Option V}(low:∀i,i<W.kn+2->s.h.get i=(cL a0 a1 a2 a3 a4 a5::W.mid)[i]?)(h1:s.h.get j=some o1)(hj:W.kn+2<=j)(p1:fV 0 o1=true):
 R [c17,c18,c19,c20,c21,c22,c23] (lw W x0 (some (.ref 0)) x12 x13 x14 x15 x16 x17 x18 x19 x20 x21 x22 x23 x24) s:=by
 have hk:=ok.kn;refine H.ren (aCc ok low h1 hj p1) ?_ (aIf H ok p1);have hm:(aF (W.obs (cL a0 a1 a2 a3 a4 a5) [o1])).n=W.kn+2+1:=dP ok _ _;refine rwl (hm ..) ?_;exact(mS (ZT) (sY hk) (.none _) (.lo (qT) (aAb)) (.none _) (.none _) (.none _) (.none _) (.none _) (.none _) (.none _) (.none _) (.none _) (.none _) (.none _) (.none _) (.none _)).at
theorem kO(ok:W.OK){o1 o2:O}(g:Gr (aF (W.obs (cL a0 a1 a2 a3 a4 a5) [o1,o2])) s n)(hn:W.kn+4<=n):(∀i,i<W.kn+2->s.h.get i=(cL a0 a1 a2 a3 a4 a5::W.mid)[i]?)/\s.h.get (W.kn+2)=some o1/\s.h.get (W.kn+3)=some o2:=by
 have hm:(aF (W.obs (cL a0 a1 a2 a3 a4 a5) [o1,o2])).n=W.kn+2+2:=dP ok _ _;refine⟨λi hi=>?_,?_,?_⟩;.exact rwl (g.h i (aHm hm hi) (aJ0 hn hi) ..) (rwl (cE ok _ _ (by simp) ..) (rwl (jO ok _ _ hi ..) rfl))
 .rw[g.h _ (aFJ hm) (aGr hn),cE ok _ _ (by simp)];exact dS ok _ _ 0
 .rw[g.h _ (aFI hm) (aGq hn),cE ok _ _ (by simp)];exact dS ok _ _ 1
theorem BN(ok:W.OK){o1:O}(g:Gr (aF (W.obs (cL a0 a1 a2 a3 a4 a5) [o1])) s n)(hn:W.kn+3<=n):(∀i,i<W.kn+2->s.h.get i=(cL a0 a1 a2 a3 a4 a5::W.mid)[i]?)/\s.h.get (W.kn+2)=some o1:=by
 have hm:(aF (W.obs (cL a0 a1 a2 a3 a4 a5) [o1])).n=W.kn+2+1:=dP ok _ _;refine⟨λi hi=>?_,?_⟩;.exact rwl (g.h i (aAT hm hi) (aJ1 hn hi) ..) (rwl (cE ok _ _ (by simp) ..) (rwl (jO ok _ _ hi ..) rfl))
 .rw[g.h _ (aAq hm) (aGu hn),cE ok _ _ (by simp)];exact dS ok _ _ 0
theorem aHM(H:mK R)(ok:W.OK){st re:List Nat}{o2:O}(hg:dQ ts)(hl:ts.length<=8)(hst:st∈W.starts)(p2:fV 0 o2=true):
 R [c13,c14,c15,c16,c17,c18,c19,c20,c21,c22,c23] (lw W none (some (.ref 0)) none (some (.ref (W.kn+2))) none (some (.str st)) (some (.str re)) none none none none none none none none) (aF (W.obs (cL a0 a1 a2 a3 a4 a5) [.list (aB ts),o2])):=by
 have hk:=ok.kn;have hm:∀o1 o2,(aF (W.obs (cL a0 a1 a2 a3 a4 a5) [o1,o2])).n=W.kn+2+2:=λZ Z=>dP ok _ _;have hm1:∀o1,(aF (W.obs (cL a0 a1 a2 a3 a4 a5) [o1])).n=W.kn+2+1:=λZ=>dP ok _ _;have pts:=jR hg;have ht:(aF (W.obs (cL a0 a1 a2 a3 a4 a5) [.list (aB ts),o2])).h.get (W.kn+2)=some (.list (aB ts)):=by rw[cE ok _ _ (by simp)];exact dS ok _ _ 0
 refine aLJ λaA=>?_;rcases s13 (W:=W) (x0:=none) (x12:=none) (x14:=none) (x17:=none) (x18:=none) (x19:=none) (x20:=none) (x21:=none) (x22:=none) (x23:=none) (x24:=none) (st:=st) (re:=re) ht (by rw[hm];exact BA) hg (ZE hl) (by rw[hm];exact aEX hk) with⟨s',e,nd,g⟩|⟨s',o,e,nd,ho,g,hw⟩
 .refine aA ?_;refine H.step e ?_;refine aLJ λaA=>?_;refine e03 (kO ok g (by rw[hm];exact ZO)) λl1 l2 l3=>?_;refine aA ?_;refine H.ren (VQ ok l1 l2 l3 (OE) pts p2) (l₂:=lw W none (some (.ref 0)) none (some (.ref (W.kn+2))) none (some (.str st)) (some (.str re)) (some .none) none none none none none none none) ?_ ?_;.refine rwl (hm ..) ?_;exact(mS (AZ) (sY hk) (.none _) (.lo (qT) (IB)) (.none _) (.at (nR) (BA) (by rw[Nat.sub_self];rfl)) (.none _) (.some (.str _)) (.some (.str _)) (.some .none) (.none _) (.none _) (.none _) (.none _) (.none _) (.none _) (.none _)).at
  .rcases s14 ok (o0:=cL a0 a1 a2 a3 a4 a5) (o2:=o2) (st:=st) (re:=re) (x0:=none) (x1:=some (.ref 0)) (x12:=none) (x14:=none) (x17:=some .none) (x18:=none) (x20:=none) (x21:=none) (x22:=none) (x23:=none) (x24:=none) hg hl with⟨s2,e2,_,g2⟩|⟨_,_,_,nd',_⟩;.refine H.step e2 (H.step aJF (H.step aJE ?_));refine e03 (kO ok g2 (ZN)) λl1 l2 Z=>?_;exact aIM H ok l1 l2 (nR) pts
   .exact absurd nd' nd
 .refine aA ?_;refine H.step e ?_;refine e03 (kO ok g (by rw[hm];exact ZO)) λl1 l2 l3=>?_;rw[hm]at ho;have wf:=ED ts st W.us (.str re) nd λq hq=>(hg q hq).1;have gf:dQ (bO ts st W.us (.str re)):=tT hg;rw[wf]at hw;have pw:=jR gf;refine H.ren (VQ ok l1 l2 hw (aGC ho) pts pw) (l₂:=lw W none (some (.ref 0)) none (some (.ref (W.kn+2))) none (some (.str st)) (some (.str re)) (some (.ref (W.kn+3))) none none none none none none none) ?_ ?_;.rw[hm];exact(mS (AZ) (sY hk) (.none _) (.lo (qT) (IB)) (.none _) (.at (nR) (BA) (by rw[Nat.sub_self];rfl)) (.none _) (.some (.str _)) (.some (.str _)) (.at (ZS) (ZQ) (by rw[show W.kn+3-(W.kn+2)=1 by exact ZR];rfl)) (.none _) (.none _) (.none _) (.none _) (.none _) (.none _) (.none _)).at
  .rcases s14 ok (o0:=cL a0 a1 a2 a3 a4 a5) (o2:=.list (aB (bO ts st W.us (.str re)))) (st:=st) (re:=re) (x0:=none) (x1:=some (.ref 0)) (x12:=none) (x14:=none) (x17:=some (.ref (W.kn+3))) (x18:=none) (x20:=none) (x21:=none) (x22:=none) (x23:=none) (x24:=none) hg hl with⟨_,_,nd',_⟩|⟨s2,f,e2,_,hf,g2,h2⟩;.exact absurd nd nd'
   .refine H.step e2 ?_;refine e03 (kO ok g2 (ZN)) λl1 l2 l3=>?_;refine H.step (s15 h2 l3 gf) ?_;refine H.ren (aCc ok l1 l3 (ZS) pw) (l₂:=lw W none (some (.ref 0)) none none none (some (.str st)) none (some (.ref (W.kn+2))) none none none none none none none) ?_ ?_;.refine rwl (hm1 ..) ?_;exact(mS (ZT) (sY hk) (.none _) (.lo (qT) (aAb)) (.none _) (.none _) (.none _) (.some (.str _)) (.none _) (.at (nR) (ZU) (by rw[Nat.sub_self];rfl)) (.none _) (.none _) (.none _) (.none _) (.none _) (.none _) (.none _)).at
    .refine e12 (s16 ok (o0:=cL a0 a1 a2 a3 a4 a5) (x0:=none) (x1:=some (.ref 0)) (x12:=none) (x13:=none) (x14:=none) (x16:=none) (x18:=none) (x19:=none) (x20:=none) (x21:=none) (x22:=none) (x23:=none) (x24:=none) (re:=re) hg hl hst) λs3 e3 g3=>?_;refine H.step e3 ?_;refine e02 (BN ok g3 (OE)) λl1 l2=>?_;exact aIM H ok l1 l2 (nR) pw
theorem aIg(H:mK R)(ok:W.OK)(ns:List Int):
 R [c10,c11,c12,c13,c14,c15,c16,c17,c18,c19,c20,c21,c22,c23] (lw W (some (.frz (ns.map V.int))) (some (.ref 0)) (some (.ref (W.kn+1))) (some (.ref (W.kn+2))) none none none none none none none none none none none) (aF (W.obs (cL a0 a1 a2 a3 a4 a5) [.list []])):=by
 refine aLJ λaA=>?_;have hk:=ok.kn;have hm:∀o1 o2,(aF (W.obs (cL a0 a1 a2 a3 a4 a5) [o1,o2])).n=W.kn+2+2:=λZ Z=>dP ok _ _;have hm1:(aF (W.obs (cL a0 a1 a2 a3 a4 a5) [.list []])).n=W.kn+2+1:=dP ok _ _;refine e37 (s10 (W.kn+2) W (some (.ref 0)) (some (.ref (W.kn+1))) ns (aF (W.obs (cL a0 a1 a2 a3 a4 a5) [.list []])) (by rw[cE ok _ _ (by simp)];exact dS ok _ _ 0) (aAq hm1) (aGT hk hm1)) λw ts s' e n' g ht hg hl hs=>?_;refine aA ?_;refine H.step e ?_;have low:∀i,i<W.kn+2->s'.h.get i=(cL a0 a1 a2 a3 a4 a5::W.mid)[i]?:=λi hi=>by rw[g.h i (aAT hm1 hi) (aF4 hi),cE ok _ _ (by simp),jO ok _ _ hi]
 rw[hm1]at hs;refine H.ren (VQ ok low ht hs (aES) (jR hg) (mV _)) (l₂:=lw W none (some (.ref 0)) (some (.ref (W.kn+1))) (some (.ref (W.kn+2))) none none none none none none none none none none none) ?_ ?_;.refine rwl (hm ..) ?_;exact(mS (AZ) (sY hk) (.none _) (.lo (qT) (IB)) (.lo (OF) (aEU)) (.at (nR) (BA) (by rw[Nat.sub_self];rfl)) (.none _) (.none _) (.none _) (.none _) (.none _) (.none _) (.none _) (.none _) (.none _) (.none _) (.none _)).at
 .have b:kC W (cL a0 a1 a2 a3 a4 a5) (.list (aB ts)) (aF (W.obs (cL a0 a1 a2 a3 a4 a5) [.list (aB ts),.list (((ns.drop 6).take 8).map V.int)])):=JV ok [_] (by simp);have hst:(aF (W.obs (cL a0 a1 a2 a3 a4 a5) [.list (aB ts),.list (((ns.drop 6).take 8).map V.int)])).h.get (W.kn+1)=some (.list (W.starts.map V.str)):=by refine rwl (b.low _ (OF) ..) (rwl (List.getElem?_cons_succ ..) (rwl (ok.at2 ..) ?_));unfold stL;rw[IT];rfl
  refine e12 (s11 (W:=W) (x0:=none) (x13:=some (.ref (W.kn+2))) (x14:=none) (x15:=none) (x16:=none) (x17:=none) (x18:=none) (x19:=none) (x20:=none) (x21:=none) (x22:=none) (x23:=none) (x24:=none) b.at0 hst (by unfold Wd.starts stT;simp)) λst hs1 e1=>?_;refine H.step e1 ?_;refine e11 (s12 (W:=W) (x0:=none) (x12:=some (.ref (W.kn+1))) (x13:=some (.ref (W.kn+2))) (x14:=none) (x15:=some (.str st)) (x16:=none) (x17:=none) (x18:=none) (x19:=none) (x20:=none) (x21:=none) (x22:=none) (x23:=none) (x24:=none) b.at0) λre e2=>?_;refine H.step e2 ?_;refine e03 (kO (W:=W) (a0:=a0) (a1:=a1) (a2:=a2) (a3:=a3) (a4:=a4) (a5:=a5) ok (Gr.refl (aF (W.obs (cL a0 a1 a2 a3 a4 a5) [.list (aB ts),.list (((ns.drop 6).take 8).map V.int)])) (W.kn+4)) (aLO _)) λl1 l2 l3=>?_;refine H.ren (VQ ok l1 l2 l3 (OE) (jR hg) (mV _)) ?_ (aHM H ok hg hl hs1 (mV _) (re:=re));rw[hm];exact(mS (AZ) (sY hk) (.none _) (.lo (qT) (IB)) (.none _) (.at (nR) (BA) (by rw[Nat.sub_self];rfl)) (.none _) (.some (.str _)) (.some (.str _)) (.none _) (.none _) (.none _) (.none _) (.none _) (.none _) (.none _) (.none _)).at
end
theorem WR:DQ=iX 0::iX 1::(pP 2 8++[c10,c11,c12,c13,c14,c15,c16,c17,c18,c19,c20,c21,c22,c23]):=rfl
theorem WX{m f}:∀ns:List Int,VNs m f (ns.map V.int) (ns.map V.int):=by
 intro x9;induction x9 with
 |nil=>exact .nil
 |cons n ns aQ=>exact .cons (.int n) (aQ)
theorem yW{W:Wd}{R:List CS->Loc->St->Prop}(H:mK R)(ok:W.OK)(ns:List Int)(a0 a1 a2 a3 a4 a5:Int)(y2 y3 y4 y5 y6 y10:Option V):
 R [c10,c11,c12,c13,c14,c15,c16,c17,c18,c19,c20,c21,c22,c23] [some (.frz (ns.map V.int)),some (.ref 0),y2,y3,y4,y5,y6,some (.ref 1),some (.ref 40),some (.str W.us),y10,some (.ref W.kn),some (.ref (W.kn+1)),some (.ref (W.kn+2)),none,none,none,none,none,none,none,none,none,none,none,none,none] (aF (W.obs (cL a0 a1 a2 a3 a4 a5) [.list []])):=by
 have hk:=ok.kn;refine e02 (BN (W:=W) (a0:=a0) (a1:=a1) (a2:=a2) (a3:=a3) (a4:=a4) (a5:=a5) ok (Gr.refl (aF (W.obs (cL a0 a1 a2 a3 a4 a5) [.list []])) (W.kn+3)) (aLO _)) λl1 l2=>?_;refine H.ren (aCc ok l1 l2 (nR) rfl) ?_ (aIg H ok ns);have hm:(aF (W.obs (cL a0 a1 a2 a3 a4 a5) [.list []])).n=W.kn+2+1:=dP ok _ _;refine rwl (hm ..) ?_;have lo:∀i,i<W.kn+2->SN (W.kn+2+1) (fx (W.kn+2) [W.kn+2]) (some (.ref i)) (some (.ref i)):=λi h=>.lo h (aF5 h);exact(HB.cons (.some (.frz (WX ns))) (.cons (lo 0 (qT)) (.cons (.none _) (.cons (.none _) (.cons (.none _) (.cons (.none _) (.cons (.none _) (.cons (lo 1 (ZY)) (.cons (lo 40 (aEY hk)) (.cons (.some (.str _)) (.cons (.none _) (.cons (lo W.kn (OC)) (.cons (lo _ (OF)) (.cons (.at (nR) (ZU) (by rw[Nat.sub_self];rfl)) (.cons (.none _) (.cons (.none _) (.cons (.none _) (.cons (.none _) (.cons (.none _) (.cons (.none _) (.cons (.none _) (.cons (.none _) (.cons (.none _) (.cons (.none _) (.cons (.none _) (.cons (.none _) (.cons (.none _) (.nil _)))))))))))))))))))))))))))).at
theorem QQ{R:List CS->Loc->St->Prop}(H:mK R)(ns:List Int)(a0 a1 a2 a3 a4 a5:Int):R (iX 1::(pP 2 8++[c10,c11,c12,c13,c14,c15,c16,c17,c18,c19,c20,c21,c22,c23])) (bZ (l0 (ns.map V.int)) 1 (some (.ref 0))) (σn a0 a1 a2 a3 a4 a5):=by
 refine H.step (MY _ a0 a1 a2 a3 a4 a5) (rwl (cF ..) (e12 (iZ a0 4 (oo6)) λk h1 h2=>rwl (show Int.fmod a0 4=Int.ofNat k from h2 ..) ?_));have:k=0\/k=1\/k=2\/k=3:=by omega
 rcases this with rfl|rfl|rfl|rfl;.exact H.blk (yW H ok0 ns a0 a1 a2 a3 a4 a5 _ _ _ _ _ _) (aJK _ a0 a1 a2 a3 a4 a5)
 .exact H.blk (yW H ok1 ns a0 a1 a2 a3 a4 a5 _ _ _ _ _ _) (aJJ _ a0 a1 a2 a3 a4 a5)
 .exact H.blk (yW H ok2 ns a0 a1 a2 a3 a4 a5 _ _ _ _ _ _) (aJI _ a0 a1 a2 a3 a4 a5)
 .exact H.blk (yW H ok3 ns a0 a1 a2 a3 a4 a5 _ _ _ _ _ _) (aJH _ a0 a1 a2 a3 a4 a5)
theorem aHG(a0:Int):stp 20 (iX 0) (l0 ([a0].map V.int)) σ0=.ok .next (bZ (l0 ([a0].map V.int)) 1 (some (.ref 0))) (σn a0 0 0 0 0 0):=by kernel_rfl
theorem aHF(a0 a1:Int):stp 20 (iX 0) (l0 ([a0,a1].map V.int)) σ0=.ok .next (bZ (l0 ([a0,a1].map V.int)) 1 (some (.ref 0))) (σn a0 a1 0 0 0 0):=by kernel_rfl
theorem aHD(a0 a1 a2 a3:Int):stp 20 (iX 0) (l0 ([a0,a1,a2,a3].map V.int)) σ0=.ok .next (bZ (l0 ([a0,a1,a2,a3].map V.int)) 1 (some (.ref 0))) (σn a0 a1 a2 a3 0 0):=by kernel_rfl
theorem aHC(a0 a1 a2 a3 a4:Int):stp 20 (iX 0) (l0 ([a0,a1,a2,a3,a4].map V.int)) σ0=.ok .next (bZ (l0 ([a0,a1,a2,a3,a4].map V.int)) 1 (some (.ref 0))) (σn a0 a1 a2 a3 a4 0):=by kernel_rfl
theorem PV:∀ns:List Int,∃a0 a1 a2 a3 a4 a5,stp 20 (iX 0) (l0 (ns.map V.int)) σ0=.ok .next (bZ (l0 (ns.map V.int)) 1 (some (.ref 0))) (σn a0 a1 a2 a3 a4 a5)
 | []=>⟨_,_,_,_,_,_,aHH⟩
 | [a]=>⟨_,_,_,_,_,_,aHG a⟩
 | [a,b]=>⟨_,_,_,_,_,_,aHF a b⟩
 | [a,b,c]=>⟨_,_,_,_,_,_,aHE a b c⟩
 | [a,b,c,d]=>⟨_,_,_,_,_,_,aHD a b c d⟩
 | [a,b,c,d,e]=>⟨_,_,_,_,_,_,aHC a b c d e⟩
 |a::b::c::d::e::f::r=>⟨_,_,_,_,_,_,aHB a b c d e f r⟩
end Mine.Internal
end
noncomputable section
open PySem PySem.W PyProof.Rows PySem.Calls PySem.SeqAt
namespace Mine.Internal
variable {α:Type}
noncomputable def zO(fd:FuncData):List Stmt:=match fd.body with|.stmts b=>b|_=>[]
noncomputable def eF(fd:FuncData):List Str:=fd.params.args.map (·.arg)
def RX(l:List (Str×NameKind)):Nat->List (Str×Nat):=List.rec (λZ=>[]) (λp Z k n=>sel (QL (some p.2)) ((p.1,n)::k (Nat.succ n)) (k n)) l
def fnI(K:Frag)(a rank:Nat):FnI:=match K.lookup a with
 |some ⟨_,_,.func fd,_⟩=>⟨a,fd,zO fd,eF fd,RX fd.scope.names 0,rank⟩
 |_=>⟨a,default,[],[],[],rank⟩
theorem FM:∀{ns:List Str}{vs:List Value}{n:Str},ns.length<=vs.length->n∈ns->((ns.zip vs).lookup n).isSome=true:=by
 intro mN;induction mN with
 |nil=>intro _;intro _;intro _;intro h;cases h
 |cons a ns aQ=>
  intro rE;cases rE with
  |nil=>intro _;intro h;intro _;simp at h
  |cons v vs=>
   intro n;intro h;intro hm;refine rwl (List.zip_cons_cons ..) (rwl (List.lookup_cons ..) ?_);by_cases e:n=a;.subst e;rw[beq_self_eq_true];rfl
   .refine rwl (beq_eq_false_iff_ne.mpr e ..) (aQ (by simpa using h) ?_);rcases List.mem_cons.mp hm with q|q;.exact absurd q e
    .exact q
theorem CT{ns:List Str}{vs:List Value}(h:ns.length<=vs.length):∀l:List Str,(∀n∈l,n∈ns)->(l.filter λn=>((ns.zip vs).lookup n).isNone)=[]:=λl hl=>by rw[List.filter_eq_nil_iff];intro n hn;have:=FM h (hl n hn);rw[Option.isNone_iff_eq_none];intro q;rw[q]at this;cases this
theorem WD:∀{ns:List Str}{vs:List Value},ns.Nodup->ns.length=vs.length->∀(pre:List (Str×Value)),(∀p∈pre,p.1∉ns)->(ns.filterMap λn=>((pre++ns.zip vs).lookup n).map (n,·))=ns.zip vs:=by
 intro uT;induction uT with
 |nil=>intro _;intro _;intro _;intro _;intro _;exact rfl
 |cons a ns aQ=>
  intro EF;cases EF with
  |nil=>intro _;intro h;intro _;intro _;simp at h
  |cons v vs=>
   intro hn;intro h;intro pre;intro hp;refine e02 (List.nodup_cons.mp hn) λh1 h2=>?_;have look:∀(l:List (Str×Value)),(∀p∈l,p.1≠a)->∀r,(l++(a,v)::r).lookup a=some v:=λl hl r=>by
    induction l with
    |nil=>rw[List.nil_append,List.lookup_cons_self]
    |cons p l ih=>obtain⟨y,u⟩:=p;exact rwl (List.cons_append ..) (rwl (List.lookup_cons ..) (rwl (beq_eq_false_iff_ne.mpr (aMd (hl _ (aLQ _))) ..) (ih λq hq=>hl q (aLM _ hq))))
   refine rwl (List.zip_cons_cons ..) (rwl (List.filterMap_cons ..) (rwl (look pre (λp hm q=>hp p hm (by rw[q];exact aLQ _)) ..) ?_));have:=aQ h2 (by simpa using h) (pre++[(a,v)]) λp hm=>by
    rcases List.mem_append.mp hm with q|q;.exactλz=>hp p q (aLM _ z)
    .have:p=(a,v):=by simpa using q
     subst this;exact h1
   rw[List.append_assoc,List.singleton_append]at this;simp only[Option.map_some];exact rwl (this ..) rfl
theorem GN{fd:FuncData}{vals:List Value}(h1:fd.params.posonlyargs=[])(h2:fd.params.vararg=none)(h3:fd.params.kwonlyargs=[])(h4:fd.params.kwarg=none)(h5:fd.defaults=.none)(nd:(eF fd).Nodup)(hl:vals.length=(eF fd).length):bindArgs fd ⟨vals,[]⟩=pure ((eF fd).zip vals):=by
 have e1:(eF fd).length<=vals.length:=aAl hl;have e2:¬vals.length>(eF fd).length:=aFy hl;have hp:List.map (λx=>x.arg) fd.params.args=eF fd:=rfl;have hz:((eF fd).filterMap λn=>(((eF fd).zip vals).lookup n).map (n,·))=(eF fd).zip vals:=by have:=WD nd hl.symm [] (λp hp=>by cases hp);simpa using this
 have hs:seqItems? Value.none=pure none:=rfl;have hf:=CT e1 (eF fd) λn hn=>hn;dsimp only[bindArgs];simp only[h1,h2,h3,h4,h5,List.map_nil,List.nil_append,List.forIn_nil,pure_bind,List.append_nil,hs,Option.getD_none,hp,decide_eq_false e2,Bool.false_and,Bool.false_eq_true,if_false,List.length_nil,Nat.sub_zero,List.drop_nil,List.take_length,List.zip_nil_right,hf,hz];rfl
def FI(l:List Str):Bool:=List.rec true (λx r k=>sel (uN (λy=>cW (sE x y)) r) k false) l
theorem xI:∀{l:List Str},FI l=true->l.Nodup:=by
 intro EE;induction EE with
 |nil=>intro _;exact .nil
 |cons x l aQ=>intro h;have h':sel (uN (λy=>cW (sE x y)) l) (FI l) false=true:=h;refine e02 (aX h') λh1 h2=>?_;rw[List.nodup_cons];refine⟨λhm=>?_,aQ h2⟩;have:=gQ h1 x hm;rw[lQ]at this;cases this
def FG(names:List (Str×Nat))(par:List Str):Nat->Bool:=List.rec (λZ=>true) (λx Z k n=>sel (BW names x n) (k (Nat.succ n)) false) par
theorem KM{names:List (Str×Nat)}:∀{par:List Str}{n},FG names par n=true->∀i x,par[i]? = some x->(x,n+i)∈names:=by
 intro MZ;induction MZ with
 |nil=>intro _;intro _;intro i;intro x;intro e;simp at e
 |cons y par aQ=>
  intro n;intro h;intro i;intro x;intro e;have h':sel (BW names y n) (FG names par (Nat.succ n)) false=true:=h;refine e02 (aX h') λh1 h2=>?_;cases i with
  |zero=>cases e;exact oI h1
  |succ i=>have:=aQ h2 i x (by simpa using e);rw[show n+(i+1)=Nat.succ n+i by exact aGI];exact this
noncomputable def VX:List α->Bool | []=>true|_=>false
theorem zB{l:List α}(h:VX l=true):l=[]:=by cases l<;>first|rfl|cases h
noncomputable def PZ:Option α->Bool|none=>true|_=>false
theorem BP{o:Option α}(h:PZ o=true):o=none:=by cases o<;>first|rfl|cases h
noncomputable def aBb:PySem.Value->Bool|.none=>true|_=>false
theorem PY{v:PySem.Value}(h:aBb v=true):v=.none:=by cases v<;>first|rfl|cases h
noncomputable def aBZ:FuncBody->Bool|.stmts _=>true|_=>false
def aBm(fd:FuncData)(c:Fn):Bool:=
 sel (aBZ fd.body) (sel (VX fd.closure) (sel (Nat.beq fd.globals mainGlobals) (sel (Nat.beq fd.builtins builtinsNs) (sel (aIc fd.scope.kind) (sel (cW fd.scope.isCoroutine) (sel (cW fd.scope.isGenerator)
 (sel (VX fd.params.posonlyargs) (sel (PZ fd.params.vararg) (sel (VX fd.params.kwonlyargs) (sel (PZ fd.params.kwarg) (sel (aBb fd.defaults) (sel (Nat.beq (bC (eF fd)) c.npar) (sel (FI (eF fd))
 (sel (FG (RX fd.scope.names 0) (eF fd) 0) (sel (uN (λx=>QL (lkp fd.scope.names x)) (eF fd)) (sel (yZ (RX fd.scope.names 0)) (zA (RX fd.scope.names 0)) false) false) false) false) false) false) false) false) false) false) false) false) false) false) false) false) false
def JG(K:Frag)(a:Nat)(c:Fn):Bool:=match K.lookup a with
 |some ⟨_,_,.func fd,_⟩=>sel (codeIn K fd.code fd.qualname) (aBm fd c) false
 |_=>false
set_option tactic.hygienic true in
theorem XT{k:Kit}{a rank:Nat}{c:Fn}(h:JG k.K a c=true):wG k (fnI k.K a rank) c:=by
 unfold JG at h;refine aLJ λaA=>?_;split at h
 .rename_i oc od fd sl hl;refine aA (aLJ λaA=>e02 (aX h) λh0 h=>?_);unfold aBm at h;refine aB1 h λh1 h2 h3 h4 h5 h6 h7 h8 h=>aB1 h λh9 h10 h11 h12 h13 h14 h15 h16 h=>eY h λh17 h18=>?_;have e:fnI k.K a rank=⟨a,fd,zO fd,eF fd,RX fd.scope.names 0,rank⟩:=by unfold fnI;rw[hl]
  refine aA (rwl (e ..) ?_);have hn:(eF fd).length=c.npar:=by rw[<- aD];exact aLU h13
  refine⟨⟨oc,od,sl,hl⟩,h0,?_,zB h2,aLU h3,aLU h4,(by cases q:fd.scope.kind<;>rw[q]at h5<;>first|rfl|cases h5),cB h6,cB h7,
   λvals hv=>GN (zB h8) (BP h9) (zB h10) (BP h11) (PY h12) (xI h14) (hv.trans hn.symm),hn,λi x hx=>by have:=KM h15 i x hx;rwa [Nat.zero_add]at this,xI h14,λx hx=>?_,xH h17,xJ h18⟩
  .refine(?_:fd.body=.stmts (zO fd));unfold zO;cases q:fd.body with
   |stmts b=>rfl
   |expr b=>rw[q]at h1;cases h1
  .have:=gQ h16 x hx;rw[gZ]at this;refine aLJ λaA=>e12 (zC this) λkd q1 q2=>?_;rcases q2 with rfl|rfl;.exact aA (.inl q1)
   .exact aA (.inr q1)
 .exact False.elim (by cases h)
def cH(f:Nat->Bool)(n:Nat):Bool:=Nat.rec true (λi k=>sel (f i) k false) n
theorem cG{f:Nat->Bool}:∀{n:Nat},cH f n=true->∀i,i<n->f i=true:=by
 intro mN;induction mN with
 |zero=>intro _ i hi;exact absurd hi (Nat.not_lt_zero _)
 |succ n aQ=>
  intro h i hi;have h':sel (f n) (cH f n) false=true:=h;refine e02 (aX h') λh1 h2=>?_;by_cases q:i=n;.rw[q];exact h1
  .exact aQ h2 i (OJ hi q)
def aJz(i j:Nat):Bool:=orB (Nat.beq i j) (cW (sE (UE i) (UE j)))
theorem UD:cH (λi=>cH (λj=>aJz i j) 100) 100=true:=by kernel_rfl
def aDq:Tab where
 ca:=cA
 an:=UE
 fn:=GD
 cn:=YE
 gn:=LP
 ng:=nGl
 nf:=nFn
 nx:=nX
 nc:=nCl
 na:=nAt
 an_inj:=λi j hi hj e=>by
  have:=cG (cG UD i hi) j hj;rcases mQ this with q|q;.exact aLU q
  .rw[e,lQ]at q;cases q
def NC:Nm:=⟨aDq,dF,HU,RY,NT⟩
def qM(K:Frag)(i:Nat):FnI:=fnI K (jY i) (HU i)
theorem CU(K:Frag)(i:Nat):(qM K i).a=jY i:=by unfold qM fnI;split<;>rfl
theorem JH(K:Frag)(i:Nat):(qM K i).rank=HU i:=by unfold qM fnI;split<;>rfl
def QV(v:PySem.Value)(x:Str):Bool:=match v with|.str y _=>sE y x|_=>false
def SR(es:List DictEntry)(x:Str):Option PySem.Value:=List.rec none (λe Z k=>sel (QV e.key x) (some e.val) k) es
def mgL(K:Frag)(x:Str):Option PySem.Value:=match K.lookup mainGlobals with
 |some ⟨_,_,.dict es _,_⟩=>SR es.toList x
 |_=>none
noncomputable def rV:Option Obj->Bool|some ⟨_,_,.dict _ _,_⟩=>true|_=>false
set_option tactic.hygienic true in
theorem QU(v:PySem.Value)(x:Str):QV v x=v.isStr x:=by
 cases v<;>try rfl
 rename_i y t;refine(?_:sE y x=(y == x));by_cases h:y=x;.subst h;rw[lQ,beq_self_eq_true]
 .refine rwl (beq_eq_false_iff_ne.mpr h ..) ?_;cases q:sE y x with
  |false=>rfl
  |true=>exact absurd (eD q) h
theorem SQ:∀(es:List DictEntry) (x:Str),SR es x=(es.find? λe=>e.key.isStr x).map (·.val):=by
 intro x9;induction x9 with
 |nil=>intro _;exact rfl
 |cons e es aQ=>intro x;refine(?_:sel (QV e.key x) (some e.val) (SR es x)=_);refine rwl (aQ x ..) (rwl (QU ..) (rwl (List.find?_cons ..) ?_));cases e.key.isStr x<;>rfl
set_option tactic.hygienic true in
theorem aHP{K:Frag}{h:Heap}{mg:Str->Option PySem.Value}(X:K.In h)(ns:h.Ns mainGlobals mg)(hd:rV (K.lookup mainGlobals)=true)(x:Str):mg x=mgL K x:=by
 refine e34 ns λo es ep ho hdat Z hf=>?_;unfold mgL;unfold rV at hd;split at hd
 .rename_i c d es' ep' sl hl;have:=X _ _ hl;replace this:=(ho)▸this;have:=aLP this;subst this;have e:es'=es:=by injection hdat
  refine rwl e (rwl (SQ ..) (rwr (hf x ..) ?_));delta nsFind findBy;exact rwr (Array.find?_toList ..) rfl
 .exact False.elim (by cases hd)
noncomputable def pB(x:PySem.Value)(g:Bool->Bool):Bool:=if i:x.ctorIdx=3 then PySem.Value.bool.elim (motive:=λZ=>Bool) x i (λb=>g b) else false
@[elab_as_elim] theorem aDT{x:PySem.Value}{g}{P:PySem.Value->Prop}(h:pB x g=true)(k:∀b,g b=true->P (.bool b)):P x:=e11 (dit h) λi h=>PySem.Value.bool.elim (motive:=λx=>∀i:x.ctorIdx=3,PySem.Value.bool.elim (motive:=λZ=>Bool) x i (λb=>g b)=true->P x) x i (λb i h=>k b h) i h
noncomputable def pI(x:PySem.Value)(g:Int->Bool):Bool:=if i:x.ctorIdx=4 then PySem.Value.int.elim (motive:=λZ=>Bool) x i (λj t=>g j) else false
@[elab_as_elim] theorem aDS{x:PySem.Value}{g}{P:PySem.Value->Prop}(h:pI x g=true)(k:∀j t,g j=true->P (.int j t)):P x:=e11 (dit h) λi h=>PySem.Value.int.elim (motive:=λx=>∀i:x.ctorIdx=4,PySem.Value.int.elim (motive:=λZ=>Bool) x i (λj t=>g j)=true->P x) x i (λj t i h=>k j t h) i h
noncomputable def pS(x:PySem.Value)(g:Str->Bool):Bool:=if i:x.ctorIdx=6 then PySem.Value.str.elim (motive:=λZ=>Bool) x i (λs t=>g s) else false
@[elab_as_elim] theorem aDQ{x:PySem.Value}{g}{P:PySem.Value->Prop}(h:pS x g=true)(k:∀s t,g s=true->P (.str s t)):P x:=e11 (dit h) λi h=>PySem.Value.str.elim (motive:=λx=>∀i:x.ctorIdx=6,PySem.Value.str.elim (motive:=λZ=>Bool) x i (λs t=>g s)=true->P x) x i (λs t i h=>k s t h) i h
noncomputable def pT(x:PySem.Value)(g:String->Bool):Bool:=if i:x.ctorIdx=8 then PySem.Value.type.elim (motive:=λZ=>Bool) x i (λc=>g c) else false
@[elab_as_elim] theorem YX{x:PySem.Value}{g}{P:PySem.Value->Prop}(h:pT x g=true)(k:∀c,g c=true->P (.type c)):P x:=e11 (dit h) λi h=>PySem.Value.type.elim (motive:=λx=>∀i:x.ctorIdx=8,PySem.Value.type.elim (motive:=λZ=>Bool) x i (λc=>g c)=true->P x) x i (λc i h=>k c h) i h
noncomputable def pR(x:PySem.Value)(g:Addr->Bool):Bool:=if i:x.ctorIdx=10 then PySem.Value.ref.elim (motive:=λZ=>Bool) x i (λa=>g a) else false
@[elab_as_elim] theorem NV{x:PySem.Value}{g}{P:PySem.Value->Prop}(h:pR x g=true)(k:∀a,g a=true->P (.ref a)):P x:=e11 (dit h) λi h=>PySem.Value.ref.elim (motive:=λx=>∀i:x.ctorIdx=10,PySem.Value.ref.elim (motive:=λZ=>Bool) x i (λa=>g a)=true->P x) x i (λa i h=>k a h) i h
noncomputable def pQ(x:PySem.Data)(g:Array PySem.Value->Bool):Bool:=if i:x.ctorIdx=2 then PySem.Data.seq.elim (motive:=λZ=>Bool) x i (λxs m=>g xs) else false
@[elab_as_elim] theorem aDR{x:PySem.Data}{g}{P:PySem.Data->Prop}(h:pQ x g=true)(k:∀xs m,g xs=true->P (.seq xs m)):P x:=e11 (dit h) λi h=>PySem.Data.seq.elim (motive:=λx=>∀i:x.ctorIdx=2,PySem.Data.seq.elim (motive:=λZ=>Bool) x i (λxs m=>g xs)=true->P x) x i (λxs m i h=>k xs m h) i h
noncomputable def pU(x:PySem.Value)(g:String->Bool):Bool:=if i:x.ctorIdx=9 then PySem.Value.builtin.elim (motive:=λZ=>Bool) x i (λb=>g b) else false
@[elab_as_elim] theorem YW{x:PySem.Value}{g}{P:PySem.Value->Prop}(h:pU x g=true)(k:∀b,g b=true->P (.builtin b)):P x:=e11 (dit h) λi h=>PySem.Value.builtin.elim (motive:=λx=>∀i:x.ctorIdx=9,PySem.Value.builtin.elim (motive:=λZ=>Bool) x i (λb=>g b)=true->P x) x i (λb i h=>k b h) i h
noncomputable def pV(x:CFound)(g:PySem.Value->Bool):Bool:=if i:x.ctorIdx=0 then CFound.val.elim (motive:=λZ=>Bool) x i (λv=>g v) else false
@[elab_as_elim] theorem YV{x:CFound}{g}{P:CFound->Prop}(h:pV x g=true)(k:∀v,g v=true->P (.val v)):P x:=e11 (dit h) λi h=>CFound.val.elim (motive:=λx=>∀i:x.ctorIdx=0,CFound.val.elim (motive:=λZ=>Bool) x i (λv=>g v)=true->P x) x i (λv i h=>k v h) i h
def onO(x:Option α)(g:α->Bool):Bool:=Option.rec false g x
@[elab_as_elim] theorem iI{x:Option α}{g}{P:Option α->Prop}(h:onO x g=true)(k:∀a,g a=true->P (some a)):P x:=by
 cases x with
 |none=>exact ffT h
 |some a=>exact k a h
def IZ(v:Option PySem.Value)(a:Nat):Bool:=onO v λx=>pR x λb=>Nat.beq a b
theorem tL{v a}(h:IZ v a=true):v=some (.ref a):=iI h λx h=>NV h λb h=>rwl (aLU h) rfl
def RC(v:Option (Option PySem.Value))(a:Nat):Bool:=onO v λx=>IZ x a
theorem LH{v a}(h:RC v a=true):v=some (some (.ref a)):=iI h λZ h=>congrArg some (tL h)
def aId(v:Option PySem.Value)(s:String):Bool:=onO v λx=>pU x λb=>b == s
theorem WW{v s}(h:aId v s=true):v=some (.builtin s):=iI h λx h=>YW h λb h=>rwl (eq_of_beq h) rfl
def CF(v:Option (Option PySem.Value))(s:String):Bool:=onO v λx=>aId x s
theorem oK{v s}(h:CF v s=true):v=some (some (.builtin s)):=iI h λZ h=>congrArg some (WW h)
def RF(v:Option (Option PySem.Value)):Bool:=onO v λx=>Option.rec true (λZ=>false) x
theorem CC{v}(h:RF v=true):v=some none:=by
 refine iI h λx h=>?_;cases x with
 |none=>rfl
 |some _=>exact ffT h
def aIb(v:Option PySem.Value)(s:String):Bool:=onO v λx=>pT x λb=>b == s
theorem WV{v s}(h:aIb v s=true):v=some (.type s):=iI h λx h=>YX h λb h=>rwl (eq_of_beq h) rfl
def aCC(v:Option Bool)(b:Bool):Bool:=onO v λc=>GI c b
theorem JB{v b}(h:aCC v b=true):v=some b:=by refine iI h λc h=>?_;cases c<;>cases b<;>first|rfl|exact ffT h
def aBe(v:Option CFound)(a:Nat):Bool:=onO v λx=>pV x λw=>pR w λb=>Nat.beq a b
theorem QY{v a}(h:aBe v a=true):v=some (.val (.ref a)):=iI h λx h=>YV h λw h=>NV h λb h=>rwl (aLU h) rfl
def QD(K:Frag)(i:Nat):Bool:=CL (NT i) (IZ (mgL K (GD i)) (jY i))
def cnB(K:Frag)(c:Nat):Bool:=IZ (mgL K (YE c)) (cA c)
def aCV(K:Frag)(c:Nat):Bool:=sel (keepIn K (.ref (cA c))) (sel (RC (findIn K (.ref (cA c)) "__init__") (jY (dF c))) (sel (aIb (typeIn K (.ref (jY (dF c)))) "function")
 (sel (hasDictIn K (cA c)) (sel (CF (findIn K (.ref (cA c)) "__setattr__") "object.__setattr__") (sel (gX K (cA c)) (sel (CF (specialIn K (.ref (cA c)) "__getattribute__") "type.__getattribute__")
 (sel (readsIn K (cA c) (.type "type")) (aBe (findCls K (.ref (cA c)) (.type "type") "__init__") (jY (dF c))) false) false) false) false) false) false) false) false
def VT(K:Frag)(c:Nat):Bool:=sel (makesIn K (cA c)) (CF (findIn K (.ref (cA c)) "__getattribute__") "object.__getattribute__") false
def aCQ(K:Frag)(c:Nat):Bool:=sel (dR K (cA c)) (sel (CF (findIn K (.ref (cA c)) "__getattribute__") "BaseException.__getattribute__") (sel (RF (findIn K (.ref (cA c)) "__getattr__")) (sel (oM K (cA c)) (aCC (instIn K (.ref (cA c)) (.type "tuple")) false) false) false) false) false
def aBY(K:Frag)(a c:Nat):Bool:=CL (kK a c) (aCC (subIn K (.ref (cA a)) (.ref (cA c))) true)
def aC7(K:Frag)(c a:Nat):Bool:=sel (onO (findIn K (.ref (cA c)) (UE a)) λattr=>noGet K attr) (RF (takerIn K (cA c) (UE a))) false
def JT(K:Frag)(i:Nat)(hs:Bool):Bool:=(chk NC 60).b ((qM K i).cx hs) (qM K i).body (aU i).body
noncomputable def cap(a b:Bool)(x:α):α:=x
def vrS(K:Frag)(ih:V->PySem.Value->Bool)(v:V)(x:PySem.Value):Bool:=V.casesOn (motive_1:=λZ=>Bool) v (Nat.beq x.ctorIdx 0) (λa=>pB x λb=>GI a b) (λi=>pI x λj=>eqB i j)
 (λl=>pS x λs=>sel (eqS l s.cps.toList) (Nat.ble (bC l) 1000) false)
 (λl=>pR x λa=>Option.rec false (λo=>pT o.cls λc=>pQ o.data λxs=>sel (c == "tuple") (sel (Nat.ble (bC l) 1000) (uO ih l xs.toList) false) false) (K.lookup a)) (λZ=>false) (λZ Z Z=>false) (λZ=>false)
def vrB(K:Frag)(n:Nat):V->PySem.Value->Bool:=Nat.rec (λZ Z=>false) (λZ ih=>vrS K ih) n
def aBk(K:Frag)(i:Nat):Bool:=onO (mgL K (LP i)) λy=>vrB K 5 (pX i) y
def bad(f:Nat->Bool)(n:Nat):List Nat:=Nat.rec [] (λi k=>sel (f i) k (i::k)) n
def tF(K:Frag)(x:Str):Bool:=Option.rec true (λZ=>false) (mgL K x)
def aBg(v:Option CFound)(s:String):Bool:=onO v λx=>pV x λw=>pU w λb=>b == s
theorem RK{v s}(h:aBg v s=true):v=some (.val (.builtin s)):=iI h λx h=>YV h λw h=>YW h λb h=>rwl (eq_of_beq h) rfl
def rI(l:List Bool):Bool:=List.rec true (λb Z k=>sel b k false) l
theorem cV:∀{l:List Bool},rI l=true->∀(i:Nat) (b:Bool),l[i]? = some b->b=true:=by
 intro rE;induction rE with
 |nil=>intro _ i b e;simp at e
 |cons a l aQ=>
  intro h i b e;refine e02 (aX (show sel a (rI l) false=true from h)) λh1 h2=>?_;cases i with
  |zero=>cases e;exact h1
  |succ i=>exact aQ h2 i b e
def UJ(K:Frag):List Bool:=[rV (K.lookup mainGlobals),cH (QD K) 81,cH (cnB K) 11,cH (aCV K) 11,cH (λi=>VT K (Nat.add i 6)) 5,cH (aCQ K) 6,cH (λi=>cH (aBY K i) 6) 6,cH (λi=>cH (aC7 K i) 43) 11,
 cH (λi=>JG K (jY i) (aU i)) 81,cH (λi=>JT K i false) 81,cH (λi=>CL (RY i) (JT K i true)) 81,cH (aBk K) 26,aBg (findCls K (.type "Exception") (.type "type") "__init__") "Exception.__init__",
 tF K (biN .len),tF K (biN .range),tF K (biN .str),tF K (biN .sorted),tF K (Str.ofString "Exception")]
def Chk(K:Frag):Bool:=rI (UJ K)
end Mine.Internal
end
noncomputable section
open PySem PySem.W PyProof.Rows
namespace Mine.Internal
def AE(st:SharedT->Thread->Option (SharedT×Thread))(okB thr:Thread->Bool)(n:Nat):SharedT->Thread->Option SharedT:=
 Nat.rec (λZ Z=>none) (λZ k s t=>Bool.rec (Bool.rec none (Option.rec none (λr=>k r.1 r.2) (st s t)) (okB t)) (some s) (thr t)) n
theorem UW{tb:String->Option Builtin}{p:Program}{w:World}{oF:Nat}{ann:Option PySem.Value}{n:Nat}:∀{s s':SharedT}{t:Thread},AE (stepT (denote tb) p w) (stepOk oF ann) through n s t=some s'->topRun tb p w oF ann n s.abs t=some s'.abs:=by
 induction n with
 |zero=>intro s s' t h;cases h
 |succ n ih=>
  intro s s' t h;have h:(Bool.rec (Bool.rec none (Option.rec none (λr=>AE (stepT (denote tb) p w) (stepOk oF ann) through n r.1 r.2) (stepT (denote tb) p w s t)) (stepOk oF ann t)) (some s) (through t):Option SharedT)=some s':=h;unfold topRun;cases h1:through t with
  |true=>rw[h1]at h;cases h;rfl
  |false=>
   rw[h1]at h;cases h2:stepOk oF ann t with
   |false=>rw[h2]at h;cases h
   |true=>
    rw[h2]at h;cases h3:stepT (denote tb) p w s t with
    |none=>rw[h3]at h;cases h
    |some r=>rw[h3]at h;rw[stepT_spec h3];exact ih h
def T0(P:Params):BT:=.node (boot_o_0 P) (.node (boot_o_1 P) (.node (boot_o_3 P) (.node (boot_o_7 P) .nil .nil) .nil) (.node (boot_o_5 P) (.node (boot_o_9 P) .nil .nil) .nil)) (.node (boot_o_2 P) (.node (boot_o_4 P) (.node (boot_o_8 P) .nil .nil) .nil) (.node (boot_o_6 P) (.node (boot_o_10 P) .nil .nil) .nil))
theorem aIY(P:Params):(absHeap (T0 P) 11 {})=boot_heap P:=by kernel_rfl
def S0(w:World)(os:OsState):SharedT:=⟨T0 w.params,11,{},#[],boot_drawn,boot_toks,os⟩
def oQ(t:BT)(n:Nat):Frag:=(List.range n).filterMap λa=>Option.rec none (λo=>Option.rec none (λo=>some (a,o)) (alive o)) (t.get a)
noncomputable abbrev pw:Program:=PySem.Challenge.pw_nt0463_01
noncomputable def aBQ:List Nat:=[120]
noncomputable def thQ:Program:=view pw aBQ
def thL:List Str:=(List.range 80).map GD++(List.range 11).map YE++(List.range 26).map LP
noncomputable def thX(s:Shared):Bool:=xlAt thQ [] s&&recOk (RowW.records PySem.Challenge.rw_nt0463_01.row.toRowW) s
abbrev stX(w:World):=PySem.W.Fast.tw10156331382660048174 (PySem.W.Fast.tw11892475500146522536 PySem.W.Fast.tw14364793385576792824) pw w
abbrev okX:=PySem.W.Fast.tw6613529449190102663 11 (some (.ref 6))
theorem XR{t:BT}{n:Nat}{life:Life}:(oQ t n).In (absHeap t n life):=λa o h=>by
 have hm:=mem_of_lookupK h;unfold oQ at hm;obtain⟨b,hb,e⟩:=List.mem_filterMap.mp hm;have hb:=List.mem_range.mp hb;cases g:t.get b with
 |none=>rw[g]at e;cases e
 |some o'=>
  rw[g]at e;cases al:alive o' with
  |none=>have e:(Option.rec none (λo=>some (b,o)) (alive o'):Option (Nat×Obj))=some (a,o):=e;rw[al]at e;cases e
  |some o2=>have e:(Option.rec none (λo=>some (b,o)) (alive o'):Option (Nat×Obj))=some (a,o):=e;rw[al]at e;cases e;rw[abs_get hb g,al]
def DW(h:Heap):Prop:=∃K:Frag,Chk K=true/\K.In h
theorem EI{tb:String->Option Builtin}{p:Program}{w:World}{N oF:Nat}{ann:Option PySem.Value}{s₀ aO:Shared}(h0:(s₀.heap.isNs mainGlobals&&s₀.gens.size == 0)=true)(hn:s₀.heap.objs.size=oF)(ha:s₀.heap.nsMap mainGlobals "__annotations__" = ann)(run:topRun tb p w oF ann N s₀ (topStub p)=some aO)(ok:(staticsOk (importedModules p.main.body) s₀.heap aO.heap&&namesBound p aO.heap&&gensDone aO&&laidKept s₀.heap aO.heap)=true):topFrom tb p w N s₀=some aO:=by
 unfold topFrom;rw[h0,hn,ha];dsimp only;rw[run];dsimp only[Option.bind_some];rw[ok]
theorem WQ{p q:Program}{loose:List Str}{Xt:Shared->Bool}{N oF:Nat}{ann:Option PySem.Value}{T:Params->BT}{H:Params->Heap}{dr:Drawn}{tk:Nat}{Cf:SharedT->Bool}(hopen:∀w:World,(fencedOpening treeTable p w N).map (λs=>(s.heap,s.gens,s.drawn,s.toks))=some (H w.params,Array.mk [],dr,tk))(hT:∀P,absHeap (T P) oF {}=H P)(hm:importedModules p.main.body=[])(hns:∀P,(H P).isNs mainGlobals=true)(hn:∀P,(H P).objs.size=oF)(ha:∀P,(H P).nsMap mainGlobals "__annotations__" = ann)(key:∀(w:World) (os:OsState),(AE (stepT (denote treeTable) p w) (stepOk oF ann) through N ⟨T w.params,oF,{},Array.mk [],dr,tk,os⟩ (topStub p)).map (λs=>(staticsOk [] (H w.params) s.abs.heap&&namesBound p s.abs.heap&&gensDone s.abs&&laidKept (H w.params) s.abs.heap,openSeen q loose [] Xt true s.abs,Cf s))=some (true,openGood q loose,true))(hC:∀s,Cf s=true->DW s.abs.heap):LeftO p q loose Xt (λs=>DW s.heap) (λZ=>True) N:=λw=>by
 obtain⟨s0,hs,hv⟩:=Option.map_eq_some_iff.mp (hopen w);obtain⟨h,gs,d,k,os⟩:=s0;simp only[Prod.mk.injEq]at hv;obtain⟨rfl,rfl,rfl,rfl⟩:=hv;obtain⟨s',h1,h2⟩:=Option.map_eq_some_iff.mp (key w os);simp only[Prod.mk.injEq]at h2;obtain⟨e1,e2,e3⟩:=h2;have run:=UW h1;have hab:(⟨T w.params,oF,{},Array.mk [],d,k,os⟩:SharedT).abs=⟨H w.params,Array.mk [],d,k,os⟩:=by unfold SharedT.abs;rw[<- hT]
 rw[hab]at run;have tf:=EI (s₀:=⟨H w.params,Array.mk [],d,k,os⟩) (by rw[hns];rfl) (hn _) (ha _) run (by rw[hm];exact e1);unfold openEnds;rw[hs,Option.bind_some,tf,Option.map_some,hm,e2];show some (openGood q loose,DW s'.abs.heap)=some (openGood q loose,True);rw[eq_true (hC _ e3)]
theorem aKZ(w:World)(os:OsState):(AE (stX w) okX through 6000 (S0 w os) (topStub pw)).map (λs=>(staticsOk [] (boot_heap w.params) s.abs.heap&&namesBound pw s.abs.heap&&gensDone s.abs&&laidKept (boot_heap w.params) s.abs.heap,PySem.W.Fast.tw4187177175401517315 thQ thL [] thX true s.abs))=some (true,openGood thQ thL):=by kernel_rfl
theorem aKY(w:World)(os:OsState):(AE (stX w) okX through 6000 (S0 w os) (topStub pw)).map (λs=>rI ((UJ (oQ s.tree s.n)).take 9))=some true:=by kernel_rfl
theorem aKX(w:World)(os:OsState):(AE (stX w) okX through 6000 (S0 w os) (topStub pw)).map (λs=>rI ((UJ (oQ s.tree s.n)).drop 9))=some true:=by kernel_rfl
theorem WE{α β γ δ:Type}{x:Option α}{f:α->β}{g:α->γ}{h:α->δ}{a:β}{b:γ}{c:δ}(h1:x.map (λs=>(f s,g s))=some (a,b))(h2:x.map h=some c):x.map (λs=>(f s,g s,h s))=some (a,b,c):=by
 cases x with
 |none=>cases h1
 |some s=>cases h1;cases h2;rfl
theorem DC:∀(l r:List Bool),rI l=true->rI r=true->rI (l++r)=true
 | [],_,_,h=>h
 |a::l,r,h1,h2=>by obtain⟨h3,h4⟩:=aX (show sel a (rI l) false=true from h1);show sel a (rI (l++r)) false=true;rw[h3];exact DC l r h4 h2
theorem WF{x:Option SharedT}(h1:x.map (λs=>rI ((UJ (oQ s.tree s.n)).take 9))=some true)(h2:x.map (λs=>rI ((UJ (oQ s.tree s.n)).drop 9))=some true):x.map (λs=>Chk (oQ s.tree s.n))=some true:=by
 obtain⟨s,rfl,e1⟩:=Option.map_eq_some_iff.mp h1;simp only[Option.map_some,Option.some.injEq]at h2|-;have:=DC _ _ e1 h2
 rwa [List.take_append_drop]at this
theorem key(w:World)(os:OsState):(AE (stX w) okX through 6000 (S0 w os) (topStub pw)).map (λs=>(staticsOk [] (boot_heap w.params) s.abs.heap&&namesBound pw s.abs.heap&&gensDone s.abs&&laidKept (boot_heap w.params) s.abs.heap,PySem.W.Fast.tw4187177175401517315 thQ thL [] thX true s.abs,Chk (oQ s.tree s.n)))=some (true,openGood thQ thL,true):=
 WE (aKZ w os) (WF (aKY w os) (aKX w os))
theorem aK0(w:World)(os:OsState):(AE (stepT (denote treeTable) pw w) (stepOk 11 (some (.ref 6))) through 6000 ⟨T0 w.params,11,{},Array.mk [],boot_drawn,boot_toks,os⟩ (topStub pw)).map (λs=>(staticsOk [] (boot_heap w.params) s.abs.heap&&namesBound pw s.abs.heap&&gensDone s.abs&&laidKept (boot_heap w.params) s.abs.heap,openSeen thQ thL [] thX true s.abs,Chk (oQ s.tree s.n)))=some (true,openGood thQ thL,true):=by have:=key w os;unfold stX okX S0 at this;rw[<- PySem.W.Fast.te10156331382660048174,<- PySem.W.Fast.te11892475500146522536,<- PySem.W.Fast.te14364793385576792824,<- PySem.W.Fast.te6613529449190102663,<- PySem.W.Fast.te4187177175401517315]at this;exact this
theorem aDW:opening pw=plainProg pw.main.scope.names:=by kernel_rfl
theorem SS(s:Shared):fenceModules? pw s=some s:=by kernel_rfl
theorem WA:importedModules pw.main.body=[]:=by kernel_rfl
theorem aLe(P:Params):(boot_heap P).isNs mainGlobals=true:=by kernel_rfl
theorem aC4(P:Params):(boot_heap P).objs.size=11:=by kernel_rfl
theorem aIW(P:Params):(boot_heap P).nsMap mainGlobals "__annotations__" = some (.ref 6):=by kernel_rfl
theorem left:LeftO pw thQ thL thX (λs=>DW s.heap) (λZ=>True) 6000:=
 WQ (boot_open (p:=pw) (N:=6000) aDW rfl SS) aIY WA aLe aC4 aIW aK0 λs h=>⟨_,h,XR⟩
end Mine.Internal
end
noncomputable section
open PySem PySem.W PyProof.Rows PySem.Calls PySem.SeqAt
namespace Mine.Internal
noncomputable def HK(o:Obj):Option (List PySem.Value):=match o with
 |⟨.type c,_,.seq xs _,_⟩=>if c = "tuple" then some xs.toList else none
 |_=>none
noncomputable def yN(K:Frag):List (Addr×List PySem.Value):=K.filterMap λp=>(K.lookup p.1).bind λo=>(HK o).map λxs=>(p.1,xs)
theorem EG{K:Frag}{a:Addr}{o:Obj}{xs:List PySem.Value}(h:K.lookup a=some o)(ho:HK o=some xs):(a,xs)∈yN K:=by refine List.mem_filterMap.mpr ⟨(a,o),mem_of_lookupK h,rwl (h ..) (?_:(HK o).map _=_)⟩;rw[ho];rfl
set_option tactic.hygienic true in
theorem KA{K:Frag}{h:Heap}(X:K.In h):∀t∈yN K,h.IsTuple t.1 t.2.toArray:=λt ht=>by
 refine aLJ λaA=>e12 (List.mem_filterMap.mp ht) λp hp e=>e12 (Option.bind_eq_some_iff.mp e) λo h1 h2=>e12 (Option.map_eq_some_iff.mp h2) λxs h3 h4=>?_;subst h4;unfold HK at h3;split at h3
 .split at h3;.rename_i c d ys n sl hc;obtain rfl:=aLP h3;exact aA ⟨_,X _ _ h1,by rw[hc],n,by simp⟩
  .cases h3
 .cases h3
noncomputable def AF(K:Frag):Gh:=⟨[],yN K,[],[],[]⟩
theorem aBN{K:Frag}:∀{n:Nat}{v:V}{x:PySem.Value},vrB K n v x=true->VR (AF K) v x:=by
 intro n;induction n with
 |zero=>intro v x h;exact ffT h
 |succ n ih=>
  intro v x h;have h':vrS K (vrB K n) v x=true:=h;cases v with
  |none=>cases x<;>first|exact .none|exact ffT h'
  |bool a=>
   refine aDT h' λb h'=>?_;have:a=b:=by cases a<;>cases b<;>first|rfl|cases h'
   exact rwl this (.bool _)
  |int i=>refine aDS h' λj t h'=>?_;rw[eO]at h';exact rwl (of_decide_eq_true h') (.int _ _)
  |str l=>refine aDQ h' λs t h'=>e02 (aX h') λh1 h2=>?_;rw[bQ]at h1;have h1:=of_decide_eq_true h1;have h2:=aLK h2;rw[aD]at h2;obtain⟨gW⟩:=s;obtain⟨a⟩:=gW;simp at h1;exact rwr h1 (.str _ _ (by exact OB h2))
  |tup l=>
   refine NV h' λa h'=>aLJ λaA=>?_;cases hl:K.lookup a with
   |none=>refine aA ?_;rw[hl]at h';exact ffT h'
   |some o=>
    rw[hl]at h';obtain⟨cls,d,dat,sl⟩:=o;refine aA ?_;revert hl;refine YX (x:=cls) h' λc h'=>aDR (x:=dat) h' λxs m h' hl=>mO h' λh1 h3 h4=>?_;have h3:=aLK h3;rw[aD]at h3;have hc:=eq_of_beq h1;refine .tup (EG hl (by show(if c = "tuple" then some xs.toList else none)=_;rw[if_pos hc])) ?_ (by exact OB h3);have go:∀{l:List V}{ys:List PySem.Value},cU (λv x=>VR (AF K) v x) l ys->VRs (AF K) l ys:=by
     intro l ys q;induction q with
     |nil=>exact .nil
     |cons a b ih=>exact .cons a ih
    exact go (fE (λv x q=>ih q) h4)
  |_=>exact ffT h'
def pE(prog:Program)(w:World)(K:Frag)(B:Heap)(os:OsState)(mg mb:Str->Option PySem.Value):Kit where
 prog:=prog
 w:=w
 T:=aDq
 B:=B
 os:=os
 K:=K
 G0:=AF K
 mg:=mg
 mb:=mb
 ft:=aU
 gt:=pX
 it:=dF
 sup:=kK
 tk:=1
theorem aHY:bootBuiltins (biN .len)=some (biV .len):=by kernel_rfl
theorem aHX:bootBuiltins (biN .range)=some (biV .range):=by kernel_rfl
theorem aHW:bootBuiltins (biN .str)=some (biV .str):=by kernel_rfl
theorem aHV:bootBuiltins (biN .sorted)=some (biV .sorted):=by kernel_rfl
theorem aHU:bootBuiltins (Str.ofString "Exception")=some (.type "Exception"):=by kernel_rfl
section
variable {K:Frag}(h:Chk K=true)
include h
theorem aCx:rV (K.lookup mainGlobals)=true:=cV h 0 _ rfl
theorem aCu:cH (QD K) 81=true:=cV h 1 _ rfl
theorem aK2:cH (cnB K) 11=true:=cV h 2 _ rfl
theorem aH0:cH (aCV K) 11=true:=cV h 3 _ rfl
theorem aHT:cH (λi=>VT K (Nat.add i 6)) 5=true:=cV h 4 _ rfl
theorem aHZ:cH (aCQ K) 6=true:=cV h 5 _ rfl
theorem aHS:cH (λi=>cH (aBY K i) 6) 6=true:=cV h 6 _ rfl
theorem aH6:cH (λi=>cH (aC7 K i) 43) 11=true:=cV h 7 _ rfl
theorem aK1:cH (λi=>JG K (jY i) (aU i)) 81=true:=cV h 8 _ rfl
theorem QW:cH (λi=>JT K i false) 81=true:=cV h 9 _ rfl
theorem WT:cH (λi=>CL (RY i) (JT K i true)) 81=true:=cV h 10 _ rfl
theorem aCv:cH (aBk K) 26=true:=cV h 11 _ rfl
theorem aCw:findCls K (.type "Exception") (.type "type") "__init__" = some (.val (.builtin "Exception.__init__")):=RK (cV h 12 _ rfl)
theorem aH5:tF K (biN .len)=true:=cV h 13 _ rfl
theorem aH4:tF K (biN .range)=true:=cV h 14 _ rfl
theorem aH3:tF K (biN .str)=true:=cV h 15 _ rfl
theorem aH2:tF K (biN .sorted)=true:=cV h 16 _ rfl
theorem aH1:tF K (Str.ofString "Exception")=true:=cV h 17 _ rfl
end
section
variable {prog:Program}{w:World}{K:Frag}{B:Heap}{os:OsState}{mg mb:Str->Option PySem.Value}
structure zY(K:Frag)(B:Heap)(mg mb:Str->Option PySem.Value):Prop where
 chk:Chk K=true
 frag:K.In B
 nolimit:B.NoLimit
 nsG:B.Ns mainGlobals mg
 nsB:B.Ns builtinsNs mb
 built:∀x:Str,x≠"__name__"->mb x=bootBuiltins x
theorem zY.mgE(b:zY K B mg mb)(x:Str):mg x=mgL K x:=aHP b.frag b.nsG (aCx b.chk) x
theorem oG{K:Frag}{x:Str}(h:tF K x=true):mgL K x=none:=by
 cases q:mgL K x with
 |none=>rfl
 |some y=>have h':(Option.rec true (λZ=>false) (mgL K x):Bool)=true:=h;rw[q]at h';exact ffT h'
theorem oW(b:zY K B mg mb){c:Nat}(hc:c<11):
 keepIn K (.ref (cA c))=true/\findIn K (.ref (cA c)) "__init__" = some (some (.ref (jY (dF c))))/\typeIn K (.ref (jY (dF c)))=some (.type "function")/\
 hasDictIn K (cA c)=true/\findIn K (.ref (cA c)) "__setattr__" = some (some (.builtin "object.__setattr__"))/\gX K (cA c)=true/\
 specialIn K (.ref (cA c)) "__getattribute__" = some (some (.builtin "type.__getattribute__"))/\readsIn K (cA c) (.type "type")=true/\
 findCls K (.ref (cA c)) (.type "type") "__init__" = some (.val (.ref (jY (dF c)))):=by
 refine aLJ λaA=>?_;have h:=cG (aH0 b.chk) c hc;unfold aCV at h;refine aB1 h λh1 h2 h3 h4 h5 h6 h7 h8 h9=>?_;exact aA (aIJ h1 (LH h2) (WV h3) h4 (oK h5) h6 (oK h7) h8 (QY h9))
theorem ST(b:zY K B mg mb){c:Nat}(hc:c<6):
 dR K (cA c)=true/\findIn K (.ref (cA c)) "__getattribute__" = some (some (.builtin "BaseException.__getattribute__"))/\findIn K (.ref (cA c)) "__getattr__" = some none/\
 oM K (cA c)=true/\instIn K (.ref (cA c)) (.type "tuple")=some false:=by
 refine aLJ λaA=>?_;have h:=cG (aHZ b.chk) c hc;unfold aCQ at h;refine yS h λh1 h2 h3 h4 h5=>?_;exact aA (aBt h1 (oK h2) (CC h3) h4 (JB h5))
theorem NW(b:zY K B mg mb){c:Nat}(h6:6<=c)(hc:c<11):makesIn K (cA c)=true/\findIn K (.ref (cA c)) "__getattribute__" = some (some (.builtin "object.__getattribute__")):=by have h:=cG (aHT b.chk) (c-6) (by exact aEa hc);have h:VT K (Nat.add (c-6) 6)=true:=h;rw[show Nat.add (c-6) 6=c by show c-6+6=c;exact aEb h6]at h;unfold VT at h;exact e02 (aX h) λh1 h2=>⟨h1,oK h2⟩
theorem aCt(b:zY K B mg mb):bX (pE prog w K B os mg mb) where
 tk1:=aLO _
 frag:=b.frag
 nolimit:=b.nolimit
 nsG:=b.nsG
 nsB:=b.nsB
 glob:=λi hi=>by
  have h:=cG (aCv b.chk) i hi;have h':onO (mgL K (LP i)) (λy=>vrB K 5 (pX i) y)=true:=h;cases q:mgL K (LP i) with
  |none=>rw[q]at h';exact ffT h'
  |some y=>rw[q]at h';exact⟨y,by show mg (LP i)=some y;rw[b.mgE,q],aBN (show vrB K 5 (pX i) y=true from h')⟩
 nxc:=show nX<=nCl by decide
 na:=show nAt<=100 by decide
 clsGet:=λc h1 h2=>(NW b h1 h2).2
 excGet:=λc hc=>e05 (ST b hc) λu09 h2 h3 h4 u49=>⟨h2,h3,h4⟩
 clsAll:=λc hc=>let ⟨_,_,_,h4,h5,h6,_⟩:=oW b hc;⟨h4,h5,h6⟩
 clsAttr:=λc a hc ha=>by have h:=cG (cG (aH6 b.chk) c hc) a ha;unfold aC7 at h;exact aLJ λaA=>e02 ((aX h)) λh1 h2=>aA ⟨(iI h1 λattr h1=>⟨attr,rfl,h1⟩),CC h2⟩
theorem aCf(b:zY K B mg mb):kA (pE prog w K B os mg mb) NC (qM K) where
 kit:=aCt b
 tab:=rfl
 it:=rfl
 fn:=λi hi=>XT (k:=pE prog w K B os mg mb) (cG (aK1 b.chk) i hi)
 rk:=λi hi=>JH _ i
 fnN:=λi hi hp=>by have h:=cG (aCu b.chk) i hi;unfold QD at h;have:=tL (lV h hp);exact rwl (CU ..) ((rwl (b.mgE ..) (rwl (this ..) rfl)):mg (GD i)=_)
 cn:=λc hc=>by have h:=tL (cG (aK2 b.chk) c hc);refine(?_:mg (YE c)=_);rw[b.mgE,h];rfl
 cls:=λc h1 h2=>by exact aLJ λaA=>e04 (oW b h2) λe1 e2 e3 Z=>e02 (NW b h1 h2) λe4 Z=>aA ⟨e1,e4,by rw[CU];exact e2,by rw[CU];exact e3⟩
 exc:=λc hc=>by exact e04 (oW b (aLL (show c<nX from hc) (by decide))) λe1 e2 e3 Z=>e05 (ST b hc) λf1 Z Z Z f5=>aBt f1 e1 (by rw[CU];exact e2) (by rw[CU];exact e3) f5
 ini:=λc hc=>by exact e09 (oW b hc) λZ Z Z Z Z Z e7 e8 e9=>⟨e7,e8,by rw[CU];exact e9⟩
 sup:=λa c ha hc hs=>by have h:=cG (cG (aHS b.chk) a ha) c hc;unfold aBY at h;exact JB (lV h hs)
 excI:=aCw b.chk
 bi:=λx=>by
  have hne:biN x≠"__name__":=by cases x<;>exactλq=>absurd (congrArg (λz=>sE z ("__name__" : Str)) q) (by decide +kernel)
  refine((rwl (b.mgE ..) (rwl (b.built _ hne ..) ?_)):mg (biN x)=none/\mb (biN x)=some (biV x));cases x;.exact⟨oG (aH5 b.chk),aHY⟩
  .exact⟨oG (aH4 b.chk),aHX⟩
  .exact⟨oG (aH3 b.chk),aHW⟩
  .exact⟨oG (aH2 b.chk),aHV⟩
 excN:=by
  have hne:Str.ofString "Exception"≠"__name__":=by decide +kernel
  exact((rwl (b.mgE ..) (rwl (b.built _ hne ..) ⟨oG (aH1 b.chk),aHU⟩)):mg (Str.ofString "Exception")=none/\mb (Str.ofString "Exception")=some (.type "Exception"))
 body:=λi hi hs hc=>by
  refine⟨60,?_⟩;rcases hc with rfl|q;.exact cG (QW b.chk) i hi
  .cases hs with
   |false=>exact cG (QW b.chk) i hi
   |true=>exact lV (cG (WT b.chk) i hi) q
end
theorem RO{G:Gh}{xs:List PySem.Value}{ns:List Int}(h:IntsAre xs ns):VRs G (ns.map V.int) xs:=by
 induction h with
 |nil=>exact .nil
 |cons n t _ ih=>exact .cons (.int n t) ih
theorem QS:cH (λi=>sE (GD (Nat.add i 80)) (Str.ofString "law")) 1=true:=by kernel_rfl
theorem QR:Nat.ble (HU 80) 100=true:=by kernel_rfl
theorem QT{prog:Program}{w:World}{s:Shared}{mg mb:Str->Option PySem.Value}{K:Frag}{ns:List Int}{xs:List PySem.Value}{la fa:Addr}(b:zY K s.heap mg mb)(hg:s.gens = #[])(hfa:mg (Str.ofString "law")=some (.ref fa))(hL:s.heap.IsList la xs.toArray)(hI:IntsAre xs ns)(hlen:ns.length<=63):
 wpAny (model prog w) callerA (call (.ref fa) [.ref la]) (λv s'=>v=.bool true/\(∀b o,s.heap.get? b=some o->s'.heap.get? b=some o)/\s'.os=s.os/\s'.gens = #[]) (λZ Z=>False) s:=by
 refine e61 (PV ns) λa0 a1 a2 a3 a4 a5 hr=>?_;have pk:=aCf (prog:=prog) (w:=w) (os:=s.os) b;have hn:=eD (cG QS 0 (by decide));have hfa':fa=jY 80:=by have h1:=pk.fnN 80 (show 80<nFn by decide) (by show NT 80=true;kernel_rfl);have h2:mg (GD 80)=some (.ref (qM K 80).a):=h1;rw[show GD 80=Str.ofString "law" from hn,hfa,CU]at h2;cases h2;rfl
 let G:Gh:=⟨[],yN K,[],[],[(la,xs)]⟩
 have I0:Inv (pE prog w K s.heap s.os mg mb).low [] G ⟨.nil,0⟩ s:=by
  refine⟨⟨λn a d e=>(by simp[pE,Kit.low,AF]at e),λt h=>h,λt h=>h,λt h=>(by cases h),λt h=>(by cases h),λt h=>(by cases h)⟩,hg,rfl,Nat.zero_le _,λb o e=>e,λp hp=>(by cases hp),λp hp=>(by cases hp),λp hp=>(by cases hp),rfl,Nat.zero_le _,
   λn o e=>(by rw[Tr.get_nil]at e;cases e),λn ad e=>(by simp[G]at e),⟨λn a d e=>(by simp[G]at e),λi j ad ad' x e=>(by simp[G]at e)⟩,λn ad e=>(by simp[G]at e),KA b.frag,λt h=>(by cases h),λn h=>(by cases h),λt h=>?_⟩
  obtain rfl:t=(la,xs):=by simpa [G] using h
  exact hL
 have hv:VRs G [.frz (ns.map V.int)] [.ref la]:=.cons (.frz (aLQ _) (RO hI) (by simp;exact aD9 hlen)) .nil;refine rwl (hfa' ..) (rwr (CU K 80 ..) ?_);refine wpAny_mono (UV (k:=pE prog w K s.heap s.os mg mb) pk (f:=80) (show 80<nFn by decide) (by rw[JH];exact aLK QR) (aLO _) (show(aU 80).body=_ from WR) (n:=17) (v:=.bool true) I0 (aLO _) hv rfl (show stp 20 (iX 0) (l0 (ns.map V.int)) σ0=_ from hr) (λS' hS hC ok=>?_)) (λv s' p=>?_) λZ Z e=>e
 .have hs:S'.C.hs=false:=by rw[hC];rfl
  refine QQ (R:=λcs l σ=>uP NC S' cs l σ (.bool true)) ⟨λ{n c rc l l' σ σ'} e r=>?_,λ{n c rc l l' σ σ'} e=>?_,λ{cs l l₂ σ aJ f} h1 h2 r=>?_⟩ ns a0 a1 a2 a3 a4 a5;.exact wT (hS▸pk) ok hs (n:=n) (by rw[hS];exact e) r
  .exact NJ (hS▸pk) ok hs (n:=n) (by rw[hS];exact e)
  .exact NK (by rw[hS];exact⟨rfl,rfl⟩) h1 h2 r
 .refine e22 p λG' σ' I' V'=>?_;exact SW V'.bool_inv I'.base I'.os I'.gens
end Mine.Internal
end
noncomputable section
open PySem PySem.W PyProof.Rows PySem.Calls
namespace Mine.Internal
theorem sa1:sreFenced pw.main=true:=by kernel_rfl
theorem sa2:((moduleNames pw.main.body).isEmpty||lookedIntoSs (moduleNames pw.main.body) pw.main.body)=true:=by kernel_rfl
theorem sa3:namesResolve pw=true:=by kernel_rfl
theorem sa4:pw.boundNames.all (λn=>!worldNames.contains n)=true:=by kernel_rfl
theorem sa5:noRoadLSs { strict:=!(importedModules pw.main.body).all cThrough.contains,foot:=none,bare:=(["vars","dir","locals"]:List Str).filter (readsOut pw pw.main.body) } pw.main.body=true:=by kernel_rfl
theorem sa6:(namesMeet pw pw.main.body λZ n=>attrL n)=true:=by kernel_rfl
theorem sa7:looksOpen pw=true:=by unfold looksOpen;rw[sa1,sa2,sa3,sa4,sa5,sa6];rfl
theorem aLy{a b:Bool}(x:a=true)(y:b=true):(a&&b)=true:=by rw[x,y];rfl
theorem VI:PySem.Challenge.rw_nt0463_01.wellSaid=true:=by unfold OpenLaw.wellSaid OpenRow.wellSaid OpenRow.partSaid;have e:looksOpen PySem.Challenge.rw_nt0463_01.row.prog=true:=sa7;rw[e];kernel_rfl
theorem aCT:(defOf thQ PySem.Challenge.rw_nt0463_01.row.name).isSome=true:=by kernel_rfl
noncomputable def FO:DefRec:=((defOf thQ PySem.Challenge.rw_nt0463_01.row.name).get aCT).1
theorem aCU:defOf thQ PySem.Challenge.rw_nt0463_01.row.name=some (FO,[]):=by kernel_rfl
theorem aBP:PySem.Challenge.rw_nt0463_01.row.prog.theDef PySem.Challenge.rw_nt0463_01.row.name=some (FO.params,FO.body,FO.scope):=by kernel_rfl
theorem aHR:kwWritten? FO.params.kwonlyargs FO.params.kw_defaults=some []:=by kernel_rfl
theorem aHA:(chainsOk thQ&&opensWell PySem.Challenge.rw_nt0463_01.row.prog&&(frees PySem.Challenge.rw_nt0463_01.row.toRowW&&PySem.Challenge.rw_nt0463_01.row.within.isEmpty))=true:=by kernel_rfl
theorem ER(w:World)(h h':Heap)(x:DW h)(k:∀b o,h.get? b=some o->h'.get? b=some o):DW h':=by obtain⟨K,h1,h2⟩:=x;exact⟨K,h1,h2.keeps k⟩
theorem aLn:PySem.Challenge.rw_nt0463_01.Holds:=by
 refine holds_law VI λsaid=>?_;refine holds_open (r:=PySem.Challenge.rw_nt0463_01.row) (q:=thQ) (loose:=thL) (Xt:=thX) (XP:=XL thQ []) (Yf:=λs=>DW s.heap) (Ya:=λZ=>True) (YP:=λZ h=>DW h) (N:=6000) (d:=FO) (kwd:=[]) left (λw s e=>of_eq_true e) ER (λs e=>xl_of s (Bool.and_eq_true_iff.mp e).1) XL.keeps aCU aBP aHR (λs e=>recFacts_of (Bool.and_eq_true_iff.mp e).2) rfl said aHA ⟨rfl,rfl,rfl,rfl,rfl,by decide +kernel⟩ ?hw ?hc
 case hw=>w_witness2
 case hc=>
  intro w s₀ aO mg mb G Y fa o pm cd doc dV kV ho hd hcd hD hmg hg args vals as hpre hlay hrd hwl hlo;obtain⟨K,hK,KX⟩:=Y;have T:=G.T;have b:zY K aO.heap mg mb:=⟨hK,KX,T.nolimit,T.g,T.b,T.builtins⟩;have hmg:mg (Str.ofString "law")=some (.ref fa):=hmg;clear hD ho hd hcd
  wrow_args hpre hlay hrd hwl hlo
  all_goals (refine wpAny_mono (QT b hg hmg (by assumption) (by assumption) (by omega)) (λv s' p=>?_) λZ Z e=>e.elim)
  all_goals (obtain⟨rfl,h1,h2,h3⟩:=p;refine GoodW.toG ⟨.inl ⟨_,.bool true,[],rfl,raisesW_false ?_,.bool true,?_,λZ=>⟨List.nodup_nil,λa h=>by cases h⟩⟩,h1,h2,h3⟩)
  .wrow_none_raised
  .wrow_post
end Mine.Internal
end
open PySem PySem.W PyProof.Rows
theorem PySem.Challenge.cw_nt0463_01_holds : PySem.Challenge.rw_nt0463_01.Holds := by
 exact Mine.Internal.aLn
